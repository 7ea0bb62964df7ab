import PyProof.Rows.All
import Wide.All
import OpenK.AllK
import Wide.FinOn
import HandS.ForMost
import HandS.More
import HandS.IsInst
import HandS.Style
import HandS.Walk
import HandS.AnyAll
import HandS.GenList
import HandS.TupAny
import HandS.TupLe
import HandS.Deep
import HandS.SortInts
import HandS.Codes
import HandS.Text
import HandS.Small
import HandS.RaiseMore
import HandS.Zip
import HandS.Words
import HandS.DictComp
import HandS.SetFor
import HandS.Strs
import HandS.Conv
import HandS.WrittenGet
import HandS.Dict
import KE.GoesZip
import KE.GoesMore
import KE.GoesEnum
import HandS.TupSets
import HandS.TupLen
import HandS.EndTab
import PySem.Challenge.RW_aswritten_k05_products_aheads_and_machin
set_option Elab.async false
set_option linter.all false
set_option Elab.async false
set_option linter.all false
set_option maxRecDepth 100000
/-! rules whose readings name the written part K by a letter of their own (so that they stand within a comprehension, too), and a call by keywords alone -/
namespace OwnK
open PySem PySem.Spec PyProof.Rows L2
section
variable {X : Cx} {CX : CXT} {k : Nat} {f : Addr} {fd : FuncData} {ps ks : List Str} {sp : Sp} {E : XK} {x : Str} {p pos : Pos} {kws : List Keyword} {tk : TA} {g : List Value → List Value → List Value} {gV : List V → List V → List V}
/-- f(k = v, ..) -/
theorem pe_callK0 (F : FnOk X.prog X.w X.K X.mg X.base CX k f fd ps sp) (hr : Room k X.A) (hg : Gl X x) (hm : X.mg x = some (.ref f)) (hk : PySem.W.keepIn X.K (.ref f) = true) (hb : KBinds X.K fd ps ks g gV) (hx : Passes CX X E)
    (hkw : PK X kws tk) (hall : (backToKw pos (keywordEach kws X.env)).all (·.1.isSome) = true := by rfl) (hks : (backToKw pos (keywordEach kws X.env)).filterMap (·.1) = ks := by rfl)
    (hdb : (x == ("__debug__" : Str)) = false := by decide)
    (hpl : ((backTo pos (starEach [] X.env)).any (·.1) || (backToKw pos (keywordEach kws X.env)).any (·.1.isNone)) = false := by rfl) :
    PE X (.Call (.Name x p) [] kws pos) (tCallK sp gV E tNil tk) := by
  refine ⟨fun pins s σ H Q I h => ?_⟩
  refine wpAny_Call_Name_kw (ld_glob I hg hm ?_ hdb)
  refine PySem.W.callWith_KW0 (h₀ := X.base) I.ok.mod.kin hk hall ?_ hpl
  refine thn (hkw.run pos pins s σ H _ I h) fun ws s2 ⟨zs, H2, I2, rz, q2⟩ => ⟨I2.kIn, ?_⟩
  rw [hks]
  exact run_fnk (us := []) (vs := []) F hr hb hx I2 .nil rz q2
end
section
variable {X : Cx} {K : PySem.W.Frag} {a : Expr} {ta : TE} {tg : Expr}
theorem ix_listK (h : X.K = K := by rfl) : IxR X (rIxL K) := by subst h; exact ix_list
theorem ix_tupK (h : X.K = K := by rfl) : IxR X (rIxT K) := by subst h; exact ix_tup
theorem sl_listK (h : X.K = K := by rfl) : SlR X (rSlL K) := by subst h; exact sl_list
theorem sl_tupK (h : X.K = K := by rfl) : SlR X (rSlT K) := by subst h; exact sl_tup
theorem op_in_seqK (h : X.K = K := by rfl) : OpR X (compareOp .In) (rIn K false) := by subst h; exact op_in_seq
theorem op_notIn_seqK (h : X.K = K := by rfl) : OpR X (compareOp .NotIn) (rIn K true) := by subst h; exact op_notIn_seq
theorem op_catTK (h : X.K = K := by rfl) : OpR X (binaryOp .Add) (rCatT K) := by subst h; exact op_catT
theorem op_eqDK (hu : X.A.units + 64 < cLine) (h : X.K = K := by rfl) : OpR X (compareOp .Eq) (rEqD K) := by subst h; exact op_eqD hu
theorem op_neDK (hu : X.A.units + 64 < cLine) (h : X.K = K := by rfl) : OpR X (compareOp .NotEq) (rNeD K) := by subst h; exact op_neD hu
theorem call_isiK (h : X.K = K := by rfl) : CallR X (.builtin "isinstance") (rIsi K) := by subst h; exact call_isi
theorem cr_sortedK (h : X.K = K := by rfl) : CallR X (.builtin "sorted") (rSorted K) := by subst h; exact cr_sorted
theorem cr_sumK (hc : X.calm = true) (h : X.K = K := by rfl) : CallR X (.builtin "sum") (rSum K) := by subst h; exact cr_sum hc
theorem cr_allK (hc : X.calm = true) (h : X.K = K := by rfl) : CallR X (.builtin "all") (rAll K) := by subst h; exact cr_all hc
theorem cr_anyK (hc : X.calm = true) (h : X.K = K := by rfl) : CallR X (.builtin "any") (rAny K) := by subst h; exact cr_any hc
def rLenS (K : PySem.W.Frag) : List V → Hp → VK → Prop := fun xs H Q => ∃ p ys, xs = [.ref p] ∧ (SqL K H p ys ∨ SqT K H p ys) ∧ Q (.int ys.length) H
theorem call_len_seqK (h : X.K = K := by rfl) : CallR X (.builtin "len") (rLenS K) := by subst h; exact call_len_seq
def rListOf (K : PySem.W.Frag) : List V → Hp → VK → Prop := fun xs H Q => ∃ p ys, xs = [.ref p] ∧ (SqL K H p ys ∨ SqT K H p ys) ∧ ∀ l, H l = none → Q (.ref l) (upd H l (.lst ys))
theorem call_list_ofK (h : X.K = K := by rfl) : CallR X (.type "list") (rListOf K) := by subst h; exact call_list_of
def rTupOf (K : PySem.W.Frag) : List V → Hp → VK → Prop := fun xs H Q => ∃ p ys, xs = [.ref p] ∧ ((SqL K H p ys ∧ ∀ l, H l = none → Q (.ref l) (upd H l (.tup ys))) ∨ (SqT K H p ys ∧ Q (.ref p) H))
theorem call_tuple_ofK (h : X.K = K := by rfl) : CallR X (.type "tuple") (rTupOf K) := by subst h; exact call_tuple_of
def rDictP (K : PySem.W.Frag) : List V → Hp → VK → Prop := fun xs H Q => ∃ (a : Addr) (ps : List Addr) (kvs : List (Key × V)), xs = [.ref a] ∧ SqL K H a (ps.map V.ref) ∧ Paired (fun p kv => SqT K H p [kV kv.1, kv.2]) ps kvs ∧ ∀ p, H p = none → Q (.ref p) (upd H p (.dK (mergeK [] kvs)))
theorem call_dictPK (hc : X.calm = true) (h : X.K = K := by rfl) : CallR X (.type "dict") (rDictP K) := by subst h; exact call_dictP hc
def tTru (K : PySem.W.Frag) (ta : TE) : TT := fun σ H Q => ta σ H fun x H' => ∃ k, TruV K x H' k ∧ Q k H'
theorem pt_truthK (ha : PE X a ta) (he : ∀ whole, isTrue a X.env whole = (do let v ← whole; standAt a.pos; holding [v] (truthy v))) (h : X.K = K := by rfl) : PT X a (tTru K ta) := by subst h; exact pt_truth ha he
theorem pi_listK {l : Expr} {tl : TE} (hl : PE X l tl) (h : X.K = K := by rfl) : PI X tg l (iList K tl) := by subst h; exact pi_list hl
theorem pi_tupK {l : Expr} {tl : TE} (hl : PE X l tl) (h : X.K = K := by rfl) : PI X tg l (iTup K tl) := by subst h; exact pi_tup hl
theorem pg_tupK {es : List Expr} {kk : Nat} {pos : Pos} {t : TGs} {n : Nat} (hc : X.calm = true) (hg : PGs X es t)
    (hn : (assignEach es X.env).length = n := by rfl) (hst : (assignEach es X.env).findIdx? (·.1) = none := by rfl) (h : X.K = K := by rfl) : PG X (.Tuple es kk pos) (gTup K n t) := by subst h; exact pg_tup hc hg hn hst
theorem pi_enumK {e : Expr} {t : TA} {p pos tpos : Pos} {elts : List Expr} {kk : Nat} (hg : Gl X "enumerate") (hm : X.mg "enumerate" = none) (ha : PA X [e] t) (hs : starEach [e] X.env = [(false, eval e X.env)] := by rfl) (h : X.K = K := by rfl) :
    PI X (.Tuple elts kk tpos) (.Call (.Name "enumerate" p) [e] [] pos) (iEnum K t) := by subst h; exact pi_enum hg hm ha hs
end
theorem walk_range0 {n : Nat} : Walk (Itr 0 n) n (fun _ => True) (fun i H x H' => H' = H ∧ x = V.int (i : Nat)) :=
  walk_range.mono (fun _ h => h) (fun i H x H' _ _ y => ⟨y.1, y.2.trans (congrArg V.int (Int.zero_add _))⟩)
end OwnK

set_option Elab.async false
set_option linter.all false
set_option maxRecDepth 100000
set_option maxHeartbeats 2000000
/-! GenX: any, all, sum of a generator expression, its elements of any kind. -/
namespace GenX
open PySem PySem.Spec PyProof.Rows L2 GxR GenW

/-- the context of a generator expression's frame; it began at s, its iterator's objects at fp -/
abbrev gcx (X : Cx) (s : Shared) (H : Hp) (cenv : Env) (fp : List Addr) (pn : List (Addr × Obj)) (Ag : Around) : Cx :=
  { X with s_0 := s, H_0 := H, env := cenv, outer := X.stack, stack := cenv :: X.stack, A := Ag, ex := fp, fn := fun _ => false, pn := pn, xe := fun _ _ => False }
/-- the scope of a generator expression -/
structure GOk (N : List Str) (sc scope : Scope) (own : List (Str × Nat)) : Prop where
  blk : BlkOk N sc scope own
  co : scope.isCoroutine = false
  cell : ∀ y ∈ scope.names, y.2 ≠ .cell
  dot : scope.names.lookup (".0" : Str) = some NameKind.local

section
variable {X : Cx} {pins : List (Addr × Obj)} {σ : L2.St} {H : Hp} {s : Shared}
theorem gen_start {scope : Scope} {own : List (Str × Nat)} {fp : List Addr} {code : Value} {h' : Heap} {m0 : Str → Option Value} {go fr : Obj} {gs : GenState} {tk : Nat} {Ag : Around} (I : Inv X pins σ H s) (ok : GOk X.N X.env.scope scope own) (hN : X.N.Nodup) (hfp : ∀ b ∈ fp, FpOk X pins H b ∧ b < s.heap.objs.size)
    (hA : Ag.handled = none) (hfr : Ag.frames = some (genEnv scope (cloFrom X.env.cells scope.names []) s.heap.objs.size code builtinsNs X.env :: X.stack))
    (hn : h'.Ns s.heap.objs.size m0) (sb : Heap.SameBut s.heap.objs.size (s.heap.push fr) h') (hgo : ∀ v, go.data ≠ .cell v) (hgb : gs.bare = true) (hgg : (h'.push go).get? h'.objs.size = some go) :
    Inv (gcx X s H (genEnv scope (cloFrom X.env.cells scope.names []) s.heap.objs.size code builtinsNs X.env) fp [(h'.objs.size, go)] Ag) [] (wipe σ (own.map (·.2))) H { s with heap := h'.push go, gens := s.gens.push gs, toks := tk } := by
  have hfree : ∀ y ∈ scope.names, y.2 = .free → ∃ c, X.env.cells.lookup y.1 = some c := fun y hy e => by
    rcases ok.blk.free y hy e with k | k
    · exact I.ok.has _ (.inl k)
    · exact I.ok.has _ (.inr k)
  have hsz : h'.objs.size = s.heap.objs.size + 1 := by rw [sb.1, Heap.size_push]
  generalize hcenv : genEnv scope (cloFrom X.env.cells scope.names []) s.heap.objs.size code builtinsNs X.env = cenv at hfr ⊢
  have kp0 : ∀ b o, s.heap.get? b = some o → h'.get? b = some o := fun b o e => sb.extBut b o (Nat.ne_of_lt (Heap.lt_size e)) (Heap.get?_push_of_some _ e)
  have kp : ∀ b o, s.heap.get? b = some o → (h'.push go).get? b = some o := fun b o e => Heap.get?_push_of_some _ (kp0 b o e)
  have hL : cenv.locals = s.heap.objs.size := by rw [← hcenv]; rfl
  have hcl : cenv.cells = cloFrom X.env.cells scope.names [] := by rw [← hcenv]; rfl
  have hsc : cenv.scope = scope := by rw [← hcenv]; rfl
  have cm : ∀ {y c}, (y, c) ∈ cloFrom X.env.cells scope.names [] → X.env.cells.lookup y = some c ∧ c < s.heap.objs.size := fun {y c} hm => by
    rcases cloFrom_mem hm with hm | ⟨h1, rfl⟩
    · cases hm
    · obtain ⟨c, hc⟩ := hfree _ h1 rfl
      rw [hc]
      obtain ⟨w, z⟩ := I.cell _ _ hc
      exact ⟨rfl, z.lt⟩
  have mem : ∀ {y c}, cenv.cells.lookup y = some c → X.env.cells.lookup y = some c ∧ c < s.heap.objs.size := fun {y c} e => by
    rw [hcl] at e
    exact cm (PySem.mem_of_lookup e)
  have look : ∀ {y}, scope.names.lookup y = some .free → ∃ c, cenv.cells.lookup y = some c ∧ X.env.cells.lookup y = some c := fun {y} hl => by
    have hy : (y, NameKind.free) ∈ scope.names := PySem.mem_of_lookup hl
    obtain ⟨c', e'⟩ := mem_lookup (cloFrom_has (cells := X.env.cells) (acc := []) hy)
    refine ⟨c', by rw [hcl]; exact e', ?_⟩
    exact (cm (PySem.mem_of_lookup e')).1
  have okB : (gcx X s H cenv fp [(h'.objs.size, go)] Ag).Ok := by
    refine ⟨I.ok.mod, by show cenv.scope.kind = _; rw [hsc]; exact ok.blk.kind, by show cenv.globals = _; rw [← hcenv]; exact I.ok.glob, by show cenv.builtins = _; rw [← hcenv]; rfl, by show s.heap.objs.size ≤ cenv.locals; rw [hL]; exact Nat.le_refl _,
      fun y z c e1 e2 => ?_, fun y hy => ?_, fun y c z e => ?_, fun _ => hA, hfr, .inr ⟨rfl, by rw [← hcenv]; rfl⟩, fun b hb => ⟨?_, fun y c e z => ?_⟩, I.bs, Nat.le_trans I.ok.bsz I.sz, fun b o e hb => ?_, fun b hb z => ?_, I.stack, I.stkFree⟩
    · exact I.ok.inj y z c (mem e1).1 (mem e2).1
    · show ∃ c, cenv.cells.lookup y = some c
      rcases hy with hy | hy
      · have hy : cenv.scope.names.lookup y = some .cell := hy
        rw [hsc] at hy
        exact absurd rfl (ok.cell _ (PySem.mem_of_lookup hy))
      · have hy : cenv.scope.names.lookup y = some .free := hy
        rw [hsc] at hy
        obtain ⟨c, h1, _⟩ := look hy
        exact ⟨c, h1⟩
    · exact absurd z (by simp)
    · show b ≠ cenv.locals
      rw [hL]; exact Nat.ne_of_lt (hfp b hb).2
    · have e : cenv.cells.lookup y = some c := e
      exact (hfp b hb).1.2.2.2.2.1 y c (mem e).1 z
    · rcases (hfp b hb).1.2.2.2.1 with z | z
      · exact I.ok.noex b o e z
      · exact absurd (Nat.lt_of_lt_of_le (Heap.lt_size e) (Nat.le_trans I.ok.bsz z)) (Nat.lt_irrefl _)
    · rcases List.mem_cons.mp (I.stkSub b z) with z | z
      · exact (hfp b hb).1.2.1 z
      · exact (hfp b hb).1.2.2.1 z
  refine ⟨okB, rfl, I.bare.push hgb, Un.kept kp, ⟨m0, ?_, fun i y av e1 e2 e3 => ?_⟩, fun y c e => ?_, ?_, fun y c e => ?_, fun p hp => ?_, I.hok.kept kp, by rw [wipe_length]; exact I.len⟩
  · show Heap.Ns _ cenv.locals _
    rw [hL]
    exact hn.push _
  · obtain ⟨e2, hne⟩ := wipe_some e2
    have e3 : Vis cenv.scope y := e3
    have hfr : scope.names.lookup y = some .free := by
      have no : ∀ k, scope.names.lookup y = some k → k = .local ∨ k = .cell → False := fun k hk hh => by
        rcases ok.blk.own _ (PySem.mem_of_lookup hk) hh with e' | e'
        · obtain ⟨p, hp, hpy⟩ := List.mem_map.mp e'
          have e3 := ok.blk.ix p hp
          have hpy : p.1 = y := hpy
          rw [hpy] at e3
          exact hne (List.mem_map.mpr ⟨p, hp, nodup_ix hN e3 e1⟩)
        · exact e' (List.mem_of_getElem? e1)
      rw [hsc] at e3
      rcases e3 with e3 | e3 | e3
      · exact (no _ e3 (.inl rfl)).elim
      · exact (no _ e3 (.inr rfl)).elim
      · exact e3
    obtain ⟨m, hn, hl⟩ := I.loc
    have hvis : Vis X.env.scope y := (ok.blk.free _ (PySem.mem_of_lookup hfr) rfl).elim (fun k => .inr (.inl k)) (fun k => .inr (.inr k))
    obtain ⟨w, r, q⟩ := hl i y av e1 e2 hvis
    refine ⟨w, r, .inr ⟨.inr (by show cenv.scope.names.lookup y = _; rw [hsc]; exact hfr), ?_⟩⟩
    obtain ⟨c, h1, h2⟩ := look hfr
    rcases q with ⟨k, _⟩ | ⟨_, c', e', z⟩
    · have k : X.env.scope.names.lookup y = some .local := k
      rcases ok.blk.free _ (PySem.mem_of_lookup hfr) rfl with k' | k' <;> rw [show X.env.scope.names.lookup y = _ from k'] at k <;> cases k
    · rw [h2] at e'; cases e'
      exact ⟨c, h1, z.keeps kp⟩
  · have e : cenv.cells.lookup y = some c := e
    obtain ⟨w, z⟩ := I.cell y c (mem e).1
    exact ⟨w, z.keeps kp⟩
  · show H cenv.locals = none
    rw [hL]; exact I.hok.fresh (Nat.le_refl _)
  · have e : cenv.cells.lookup y = some c := e
    exact I.freeC y c (mem e).1
  · rcases List.mem_append.mp hp with z | z
    · rw [List.mem_singleton.mp z]
      refine ⟨hgg, I.hok.fresh (by rw [hsz]; exact Nat.le_succ _), ?_, fun hm => ?_, hgo⟩
      · show h'.objs.size ≠ cenv.locals
        rw [hL, hsz]; exact Nat.succ_ne_self _
      · have hm : h'.objs.size ∈ frs X.stack := hm
        have q := (I.stack.mem hm)
        obtain ⟨_, o, ho, _⟩ := q
        have q2 : h'.objs.size < s.heap.objs.size := Heap.lt_size ho
        rw [hsz] at q2
        exact absurd (Nat.lt_of_succ_lt q2) (Nat.lt_irrefl _)
    · exact absurd z (by simp)

/-- the consumer's objects S may have changed while the generator slept; all else is kept -/
structure Wk (S : List Addr) (s s' : Shared) : Prop where
  os : s'.os = s.os
  bare : AllBare s'.gens
  keep : ∀ b o, b ∉ S → s.heap.get? b = some o → s'.heap.get? b = some o
  own : ∀ b ∈ S, ∃ o, s'.heap.get? b = some o ∧ ∀ v, o.data ≠ .cell v
/-- S stands apart from what the frame knows -/
def SOk (X : Cx) (S : List Addr) : Prop := ∀ b ∈ S, b ≠ X.env.locals ∧ b ∉ X.fs ∧ (b ∈ X.ex ∨ X.s_0.heap.objs.size ≤ b) ∧ (∀ x c, X.env.cells.lookup x = some c → c ≠ b) ∧ ∀ p ∈ X.pn, p.1 ≠ b
theorem SOk.fp {S : List Addr} (h : SOk X S) (hn : ∀ b ∈ S, H b = none) : ∀ b ∈ S, FpOk X [] H b := fun b hb =>
  let ⟨h1, h2, h3, h4, h5⟩ := h b hb
  ⟨hn b hb, h1, h2, h3, h4, fun p hp => h5 p (by simpa using hp)⟩
theorem inv_wake {S : List Addr} {s' : Shared} (I : Inv X [] σ H s) (hS : ∀ b ∈ S, FpOk X [] H b) (z : Wk S s s') : Inv X (pinsAt S s'.heap) σ H s' := by
  have nt : ∀ b u, H b = some u → b ∉ S := fun b u q hb => by rw [(hS b hb).1] at q; cases q
  obtain ⟨hh, g, d, t, o⟩ := s'
  obtain ⟨z1, z2, z3, z4⟩ := z
  have ho : o = s.os := z1
  subst ho
  have J : Inv X [] σ H { s with heap := hh, gens := g, drawn := d, toks := t } := by
    refine I.step (g' := g) (t' := t) (d' := d) (ch := S) (fun b hb => ⟨(hS b hb).2.2.2.1, (hS b hb).2.1, (hS b hb).2.2.2.2.1, (hS b hb).2.2.2.2.2⟩)
      (fun b ob _ _ hc q _ => z3 b ob hc q) (fun b ob _ _ hc q _ => ⟨ob.slots, z3 b ob hc q⟩) (fun _ _ _ _ n => n) (fun b ob hc q => ⟨ob, z3 b ob hc q⟩)
      (fun _ _ q => q) (fun _ _ _ q => q) (fun b ps q => ⟨#[], by rw [q]; simp⟩) (fun m hm => ?_) (fun b u q => ?_) z2
    · obtain ⟨ob, es, ep, ho, r⟩ := hm
      exact ⟨ob, es, ep, z3 _ ob (fun hb => (hS _ hb).2.1 rfl) ho, r⟩
    · refine (I.hok b u q).stay (fun c v hc y => z3 c v ?_ y) (fun _ y => y) fun _ _ y => y
      rcases hc with y | y
      · rw [y]; exact nt b u q
      · exact nt c _ y
  exact J.pinned hS z4
theorem inv_free {S : List Addr} {h0 : Heap} (I : Inv X (pinsAt S h0) σ H s) (he : ∀ b ∈ S, ∃ o, h0.get? b = some o) : ∀ b ∈ S, H b = none := fun b hb => by
  obtain ⟨o, e⟩ := he b hb
  exact (I.pin (b, o) (List.mem_append_right _ (mem_pinsAt hb e))).2.1
end

section
/-- an element is handed out -/
def GY (Xg : Cx) (S : List Addr) (Gh : List V → Heap → Prop) (σw : L2.St) (U : List V → V → Hp → (Hp → Prop) → Prop) : Protocol := fun _ s₀ v s kap =>
  ∃ ys y H Nx, Gh ys s₀.heap ∧ RelV y v ∧ Inv Xg (pinsAt S s₀.heap) σw H s ∧ U ys y H Nx ∧ (Nx H → ∀ s', Wk S s s' → Gh (ys ++ [y]) s'.heap → kap (.send .none) s')
/-- all are handed out -/
def GE (Xg : Cx) (S : List Addr) (Gh : List V → Heap → Prop) (σw : L2.St) (Qd : List V → Hp → Prop) (s₀ s1 : Shared) : Prop := ∃ ys H, Gh ys s₀.heap ∧ Inv Xg (pinsAt S s₀.heap) σw H s1 ∧ Qd ys H
/-- the reading of the turns; the list: what has been handed out -/
def Turns (J : It) (W : Nat → Nat → List V → Hp → Prop) (g : TG) (tt : TT) (te : TE) (U : List V → V → Hp → (Hp → Prop) → Prop) (vs : List Nat) (σw : L2.St) (Qd : List V → Hp → Prop) : Prop :=
  ∀ i m ys H, W i m ys H → (J.stop i H ∧ Qd ys H) ∨ (J.go i H ∧ ∃ Nx : List V → Hp → Prop, (∀ ys' H', Nx ys' H' → ∃ m', m' < m ∧ W (i + 1) m' ys' H') ∧
    ∀ x H', J.yld i H x H' → g x σw H' fun σ2 H2 => wipe σ2 vs = σw ∧ tt σ2 H2 fun b H3 => if b = true then te σ2 H3 fun y H4 => U ys y H4 (Nx (ys ++ [y])) else Nx ys H3)
variable {X : Cx}
theorem seg_loop {elt tg iter : Expr} {ifs : List Expr} {scope : Scope} {pos : Pos} {it : Addr} {fp : List Addr} {tn : Nat → Heap → Prop} {J : It} {W : Nat → Nat → List V → Hp → Prop} {g : TG} {tt : TT} {te : TE} {U : List V → V → Hp → (Hp → Prop) → Prop} {vs : List Nat} {σ0 : L2.St} {Qd : List V → Hp → Prop} {Gh : List V → Heap → Prop} {S : List Addr} {Ab : Around}
    (hex : X.ex = fp) (hxe : X.xe = fun _ _ => False) (hc : X.calm = true) (T : Turn X.prog X.w X.K tg J fp it tn) (pg : PG X tg g) (pt : PTs X ifs tt) (pe : PE X elt te)
    (hA : Ab.over (.compLoop (.GeneratorExp elt [⟨tg, iter, ifs, 0⟩] scope pos) 0 (.ref it) .none X.env) [] = X.A) (hco : X.env.scope.isCoroutine = false) (hS : SOk X S) (hfS : ∀ b ∈ fp, b ∉ S) (hfp : ∀ b ∈ fp, ∀ p ∈ X.pn, p.1 ≠ b)
    (turn : Turns J W g tt te U vs (wipe σ0 vs) Qd) : ∀ (m n i : Nat) (ys : List V) (H : Hp) (s s₀ : Shared), m < n → W i m ys H → Gh ys s₀.heap → Inv X (pinsAt S s₀.heap) (wipe σ0 vs) H s → (∀ b ∈ S, ∃ o, s₀.heap.get? b = some o) → tn i s.heap → (∀ b ∈ fp, H b = none) →
      Seg (model X.prog X.w) Ab (fun n s₀ r s₁ => r = .ok .next ∧ GE X S Gh (wipe σ0 vs) Qd s₀ s₁) (GY X S Gh (wipe σ0 vs) U) n s₀
        (.compLoop (.GeneratorExp elt [⟨tg, iter, ifs, 0⟩] scope pos) 0 (.ref it) .none X.env) ((model X.prog X.w).den (.compLoop (.GeneratorExp elt [⟨tg, iter, ifs, 0⟩] scope pos) 0 (.ref it) .none X.env)) [] s := by
  intro m
  induction m using Nat.strongRecOn with
  | ind m ih =>
    intro n i ys H s s₀ hmn hW hG I hSe st hfn
    have stat : ∀ {σ' : L2.St} {H' : Hp} {s' : Shared}, Inv X (pinsAt S s₀.heap) σ' H' s' → (∀ b ∈ fp, H' b = none) → ∀ b ∈ fp, FpOk X (pinsAt S s₀.heap) H' b := fun {σ' H' s'} I' hn b hb =>
      ⟨hn b hb, (I'.ok.exf b (by rw [hex]; exact hb)).1, I'.ok.exfs b (by rw [hex]; exact hb), .inl (by rw [hex]; exact hb), fun x c e => (I'.ok.exf b (by rw [hex]; exact hb)).2 x c e, fun p hp => by
        rcases List.mem_append.mp hp with z | z
        · exact hfp b hb p z
        · exact fun e => hfS b hb (e ▸ (of_pinsAt z).1)⟩
    show Seg _ Ab _ _ n s₀ _ ((compTurn (.GeneratorExp elt [⟨tg, iter, ifs, 0⟩] scope pos) 0 (.ref it) .none X.env).onRaise (leaving X.env)) [] s
    rw [compTurn_gen, Sem.onRaise_eq_wrap]
    refine seg_bind_wrap (wpAny_standAt ?_)
    rcases turn i m ys H hW with ⟨stop, qq⟩ | ⟨go, Nx, hNx, step⟩
    · refine seg_bind_wrap ?_
      rw [hA]
      refine thnF (T.done X rfl rfl rfl hc i _ s _ H (fun _ _ => False) I (stat I hfn) st stop) fun r s6 ⟨hr, I6⟩ => ?_
      subst hr
      exact seg_end (.ok .next) ⟨rfl, ys, H, hG, I6, qq⟩
    · refine seg_bind_wrap ?_
      rw [hA]
      refine thnF (T.item X rfl rfl rfl hc i _ s _ H (fun _ _ => False) I (stat I hfn) st go) fun r s6 ⟨u, hr, h6⟩ => ?_
      subst hr
      refine seg_bind_wrap ?_
      rw [hA]
      refine thnF h6 fun _ s7 ⟨x, H7, I7, r7, y7, st7, n7⟩ => ?_
      have I7' := I7.pinned (stat I7 n7) (T.obj _ _ st7)
      refine seg_bind_wrap ?_
      rw [hA]
      have pgr := pg.run _ s7 _ H7 x u _ I7' r7 (step x H7 y7)
      rw [hxe] at pgr
      refine thnF pgr fun _ s8 ⟨σ8, H8, I8, hw8, q8⟩ => ?_
      refine seg_bind_wrap ?_
      rw [hA]
      have ptr := pt.run _ s8 σ8 H8 _ I8 q8
      rw [hxe] at ptr
      refine thnF ptr fun b s9 ⟨H9, I9, q9⟩ => ?_
      have fin : ∀ {s' : Shared} {H' : Hp}, Inv X (pinsAt S s₀.heap ++ pinsAt fp s7.heap) σ8 H' s' → Inv X (pinsAt S s₀.heap) (wipe σ0 vs) H' s' ∧ tn (i + 1) s'.heap ∧ (∀ b ∈ fp, H' b = none) := fun {s' H'} I' => by
        have pin' : ∀ b ∈ fp, ∀ o, s7.heap.get? b = some o → s'.heap.get? b = some o ∧ H' b = none := fun b hb o e =>
          let z := I'.pin (b, o) (List.mem_append_right _ (List.mem_append_right _ (mem_pinsAt hb e)))
          ⟨z.1, z.2.1⟩
        have hl : (wipe σ0 vs).length = σ8.length := by rw [← hw8, wipe_length]
        refine ⟨(I'.unpinned (pins := pinsAt S s₀.heap)).weak hl (fun j v e => ?_), T.keep _ _ _ st7 fun b hb o e => (pin' b hb o e).1, fun b hb => ?_⟩
        · rw [← hw8] at e
          exact (wipe_some e).1
        · obtain ⟨o, e, _⟩ := T.obj _ _ st7 b hb
          exact (pin' b hb o e).2
      cases b with
      | false =>
        simp only [Bool.false_eq_true, if_false] at q9 ⊢
        obtain ⟨J1, J2, J3⟩ := fin I9
        obtain ⟨m', hm', w'⟩ := hNx ys H9 q9
        exact seg_again rfl (ih m' hm' n (i + 1) ys H9 s9 s₀ (Nat.lt_trans hm' hmn) w' hG J1 hSe J2 J3)
      | true =>
        simp only [if_true] at q9 ⊢
        have hy : ∀ v, yieldOut X.env v = yieldValue v := fun v => by simp only [yieldOut, hco, Bool.false_eq_true, if_false]
        simp only [hy]
        rw [Sem.bind_eq_wrap', Sem.bind_eq_wrap', Sem.wrap_wrap, Sem.wrap_wrap]
        refine seg_wrap ?_
        rw [hA]
        have per := pe.run _ s9 σ8 H9 _ I9 q9
        rw [hxe] at per
        refine thnF per fun z s10 ⟨yv, H10, I10, r10, u10⟩ => ?_
        obtain ⟨J1, J2, J3⟩ := fin I10
        obtain ⟨n', rfl⟩ : ∃ n', n = n' + 1 := ⟨n - 1, by omega⟩
        refine seg_at (seg_yield rfl rfl rfl ⟨ys, yv, H10, Nx (ys ++ [yv]), hG, r10, J1, u10, fun hnx s' wk hG' => ?_⟩)
        obtain ⟨m', hm', w'⟩ := hNx _ H10 hnx
        have K1 : Inv X [] (wipe σ0 vs) H10 s10 := J1.pins_of fun p hp => absurd hp (by simp)
        have hSn := inv_free J1 hSe
        refine seg_again rfl (ih m' hm' n' (i + 1) _ H10 s' s' (by omega) w' hG' (inv_wake K1 (hS.fp hSn) wk) (fun b hb => let ⟨o, e, _⟩ := wk.own b hb; ⟨o, e⟩) (T.keep _ _ _ J2 fun b hb o e => wk.keep b o (hfS b hb) e) J3)
theorem seg_start {elt tg iter : Expr} {ifs : List Expr} {scope : Scope} {pos : Pos} {it : Addr} {fp : List Addr} {tn : Nat → Heap → Prop} {J : It} {W : Nat → Nat → List V → Hp → Prop} {g : TG} {tt : TT} {te : TE} {U : List V → V → Hp → (Hp → Prop) → Prop} {vs : List Nat} {σ0 : L2.St} {Qd : List V → Hp → Prop} {Gh : List V → Heap → Prop} {S : List Addr} {Ab : Around}
    (hex : X.ex = fp) (hxe : X.xe = fun _ _ => False) (hc : X.calm = true) (T : Turn X.prog X.w X.K tg J fp it tn) (pg : PG X tg g) (pt : PTs X ifs tt) (pe : PE X elt te)
    (hA : Ab.over (.compLoop (.GeneratorExp elt [⟨tg, iter, ifs, 0⟩] scope pos) 0 (.ref it) .none X.env) [] = X.A) (hco : X.env.scope.isCoroutine = false) (hS : SOk X S) (hfS : ∀ b ∈ fp, b ∉ S) (hfp : ∀ b ∈ fp, ∀ p ∈ X.pn, p.1 ≠ b)
    (turn : Turns J W g tt te U vs (wipe σ0 vs) Qd) {m n : Nat} {H : Hp} {s : Shared} (hmn : m < n) (hW : W 0 m [] H) (hG : Gh [] s.heap) (I : Inv X (pinsAt S s.heap) (wipe σ0 vs) H s) (hSe : ∀ b ∈ S, ∃ o, s.heap.get? b = some o) (st : tn 0 s.heap) (hfn : ∀ b ∈ fp, H b = none) :
      Seg (model X.prog X.w) Ab (fun n s₀ r s₁ => r = .ok .next ∧ GE X S Gh (wipe σ0 vs) Qd s₀ s₁) (GY X S Gh (wipe σ0 vs) U) n s
        (.compStart (.GeneratorExp elt [⟨tg, iter, ifs, 0⟩] scope pos) 0 (.ref it) .none X.env) ((model X.prog X.w).den (.compStart (.GeneratorExp elt [⟨tg, iter, ifs, 0⟩] scope pos) 0 (.ref it) .none X.env)) [] s := by
  have loop := seg_loop hex hxe hc T pg pt pe hA hco hS hfS hfp turn m n 0 [] H s s hmn hW hG I hSe st hfn
  show Seg _ Ab _ _ _ s _ ((compStart (.GeneratorExp elt [⟨tg, iter, ifs, 0⟩] scope pos) 0 (.ref it) .none X.env).onRaise (leaving X.env)) [] s
  unfold compStart
  rw [Sem.onRaise_eq_wrap]
  show Seg _ Ab _ _ _ s _ ((ask >>= _).wrap _ _ _ _) [] s
  refine seg_bind_wrap (wpAny_askSetting ?_)
  split
  · exact seg_again rfl loop
  · first
      | exact seg_bind_wrap (wpAny_rule (seg_bind_wrap (wpAny_standAt (seg_bind_wrap (T.self _ 0 s _ _ st (seg_again rfl loop))))))
      | (refine seg_bind_wrap (wpAny_rule ?_); show Seg _ Ab _ _ _ s _ ((standAt iter.pos >>= _).wrap _ _ _ _) [] s; exact seg_bind_wrap (wpAny_standAt (seg_bind_wrap (T.self _ 0 s _ _ st (seg_again rfl loop)))))

/-- between two pulls the consumer touches its own objects S alone -/
structure Wq (S : List Addr) (s s' : Shared) : Prop where
  os : s'.os = s.os
  gens : s'.gens = s.gens
  keep : ∀ b o, b ∉ S → s.heap.get? b = some o → s'.heap.get? b = some o
  own : ∀ b ∈ S, ∃ o, s'.heap.get? b = some o ∧ ∀ v, o.data ≠ .cell v
def KeepS (S : List Addr) (s s' : Shared) : Prop := ∀ b ∈ S, ∀ o, s.heap.get? b = some o → s'.heap.get? b = some o
/-- a generator at a that can be pulled: at each pull it ends, or hands out an element -/
def Pull (X : Cx) (pins : List (Addr × Obj)) (σ : L2.St) (U : List V → V → Hp → (Hp → Prop) → Prop) (Qd : List V → Hp → Prop) (a : Addr) (S : List Addr) (Gh : List V → Heap → Prop) : Nat → List V → Shared → Prop
  | 0 => fun ys s => ∀ s', Wq S s s' → Gh ys s'.heap → wpAny (model X.prog X.w) X.A.in1 (pyNext (.ref a)) (fun r s1 => KeepS S s' s1 ∧ match r with
    | none => ∃ ys H, Gh ys s'.heap ∧ Inv X pins σ H s1 ∧ Qd ys H
    | some v => ∃ ys y H Nx, Gh ys s'.heap ∧ RelV y v ∧ Inv X pins σ H s1 ∧ U ys y H Nx ∧ (Nx H → ∀ s'', Wq S s1 s'' → ¬ Gh (ys ++ [y]) s''.heap)) (fun _ _ => False) s'
  | n + 1 => fun ys s => ∀ s', Wq S s s' → Gh ys s'.heap → wpAny (model X.prog X.w) X.A.in1 (pyNext (.ref a)) (fun r s1 => KeepS S s' s1 ∧ match r with
    | none => ∃ ys H, Gh ys s'.heap ∧ Inv X pins σ H s1 ∧ Qd ys H
    | some v => ∃ ys y H Nx, Gh ys s'.heap ∧ RelV y v ∧ Inv X pins σ H s1 ∧ U ys y H Nx ∧ (Nx H → Pull X pins σ U Qd a S Gh n (ys ++ [y]) s1)) (fun _ _ => False) s'

theorem pull_of {pins : List (Addr × Obj)} {σ σw : L2.St} {U : List V → V → Hp → (Hp → Prop) → Prop} {Qd : List V → Hp → Prop} {Gh : List V → Heap → Prop} {a : Addr} {g : Nat} {S : List Addr} {H4 : Hp} {s4 : Shared} {cenv : Env} {fp : List Addr} {go : Obj} {Ag : Around}
    (I0 : Inv X pins σ H4 s4) (ffp : ∀ b ∈ fp, FpOk X pins H4 b) (hh : X.A.handled = none) (hd : X.A.depth < recursionLimit) (hgen : ∀ h : Heap, h.get? a = some go → h.IsGen a g) (haS : a ∉ S) (hcS : cStatics ∉ S) :
    ∀ (n : Nat) (ys : List V) (s : Shared) (gs : GenState), s.heap.get? a = some go → s.gens[g]? = some gs → AllBare s.gens → s.heap.NoLimit →
      (∀ s', Wk S s s' → Gh ys s'.heap → gs.Goes (model X.prog X.w) X.A.in1.in1 (fun n s₀ r s₁ => r = .ok .next ∧ GE (gcx X s4 H4 cenv fp [(a, go)] Ag) S Gh σw Qd s₀ s₁) (GY (gcx X s4 H4 cenv fp [(a, go)] Ag) S Gh σw U) n (.send .none) s') →
      Pull X pins σ U Qd a S Gh n ys s := by
  have back : ∀ {s₁ s₂ : Shared} {pp : List (Addr × Obj)} {H : Hp}, Inv (gcx X s4 H4 cenv fp [(a, go)] Ag) pp σw H s₁ → s₂.os = s₁.os → AllBare s₂.gens → (∀ b o, s₁.heap.get? b = some o → s₂.heap.get? b = some o) → Inv X pins σ H s₂ :=
    fun {s₁ s₂ pp H} I e1 e2 hk => I0.call' (ch := fp) (e1.trans I.os) (Un.trans I.base (Un.kept hk)) (I.hok.kept hk) e2 fun b hb => ⟨(ffp b hb).2.2.2.1, (ffp b hb).2.1, (ffp b hb).2.2.2.2.1, (ffp b hb).2.2.2.2.2⟩
  have prep : ∀ {s s' : Shared} {gs : GenState}, s.heap.get? a = some go → s.gens[g]? = some gs → AllBare s.gens → s.heap.NoLimit → Wq S s s' → s'.heap.get? a = some go ∧ s'.gens[g]? = some gs ∧ s'.heap.NoLimit ∧ g + 1 ≤ s'.gens.size ∧ Wk S s (s'.setGen g .running) := by
    intro s s' gs h1 h2 h3 h4 wq
    refine ⟨wq.keep _ _ haS h1, by rw [wq.gens]; exact h2, ?_, ?_, wq.os, ?_, wq.keep, wq.own⟩
    · obtain ⟨mc, hns, hnn⟩ := h4
      exact ⟨mc, hns.at' fun o e => wq.keep _ o hcS e, hnn⟩
    · rw [wq.gens]
      exact (Array.getElem?_eq_some_iff.mp h2).1
    · exact allBare_setGen (by rw [wq.gens]; exact h3) rfl
  intro n
  induction n with
  | zero =>
    intro ys s gs h1 h2 h3 h4 hgo s' wq hG
    obtain ⟨k1, k2, k3, k4, k5⟩ := prep h1 h2 h3 h4 wq
    refine wpAny_pyNext_genexpQ (A := X.A.in1) hh k3 hd (hgen _ k1) k2 (hgo _ k5 hG) (fun v s₁ gs' hb hv => ?_) (fun s₁ hp h' hk => ?_)
    · obtain ⟨ys', y, H, Nx, hG', ry, I, u, k⟩ := hv
      have I0' : Inv X pins σ H (s₁.setGen g gs') := back I rfl (allBare_setGen I.bare hb) fun _ _ e => e
      refine ⟨fun b hb o e => (I.pin (b, o) (List.mem_append_right _ (mem_pinsAt hb e))).1, ys', y, H, Nx, hG', ry, I0', u, fun hnx => ?_⟩
      exact fun s'' wq'' hG'' => k hnx s'' ⟨wq''.os, by rw [wq''.gens]; exact allBare_setGen I.bare hb, wq''.keep, wq''.own⟩ hG''
    · obtain ⟨ys', H, hG', I, hq⟩ := hp
      exact ⟨fun b hb o e => hk _ _ (I.pin (b, o) (List.mem_append_right _ (mem_pinsAt hb e))).1, ys', H, hG', back I rfl (allBare_setGen I.bare rfl) hk, hq⟩
  | succ n ih =>
    intro ys s gs h1 h2 h3 h4 hgo s' wq hG
    obtain ⟨k1, k2, k3, k4, k5⟩ := prep h1 h2 h3 h4 wq
    refine wpAny_gsz (n := g + 1) k4 (wpAny_pyNext_genexpQ (A := X.A.in1) hh k3 hd (hgen _ k1) k2 (hgo _ k5 hG) (fun v s₁ gs' hb hv => ?_) (fun s₁ hp h' hk => ?_))
    · intro hsz
      obtain ⟨ys', y, H, Nx, hG', ry, I, u, k⟩ := hv
      have I0' : Inv X pins σ H (s₁.setGen g gs') := back I rfl (allBare_setGen I.bare hb) fun _ _ e => e
      refine ⟨fun b hb o e => (I.pin (b, o) (List.mem_append_right _ (mem_pinsAt hb e))).1, ys', y, H, Nx, hG', ry, I0', u, fun hnx => ?_⟩
      have hsz1 : g < s₁.gens.size := by
        have q : (s₁.setGen g gs').gens.size = s₁.gens.size := setGen_size _ _ _
        omega
      refine ih _ (s₁.setGen g gs') gs' (I.pin (a, go) (List.mem_append_left _ List.mem_cons_self)).1 (setGen_at hsz1) (allBare_setGen I.bare hb) I.nolimit fun s'' wk hG'' => ?_
      exact k hnx s'' ⟨wk.os, wk.bare, wk.keep, wk.own⟩ hG''
    · intro hsz
      obtain ⟨ys', H, hG', I, hq⟩ := hp
      exact ⟨fun b hb o e => hk _ _ (I.pin (b, o) (List.mem_append_right _ (mem_pinsAt hb e))).1, ys', H, hG', back I rfl (allBare_setGen I.bare rfl) hk, hq⟩
/-- the reading of a generator expression: what is walked, the turns; the def's table may have grown -/
def tGen (P : Addr) (wi : TI) (g : TG) (tt : TT) (te : TE) (vs : List Nat) (U : List V → V → Hp → (Hp → Prop) → Prop) (Qd : List V → Hp → Prop) : L2.St → Hp → Prop := fun σ H =>
  wi σ H fun J H2 => TabG H2 P ∧ ∀ H3, Tabbed P H2 H3 → ∃ W : Nat → Nat → List V → Hp → Prop, (∃ m, W 0 m [] H3) ∧ Turns J W g tt te U vs (wipe σ vs) Qd

theorem gen_laid {elt tg iter : Expr} {ifs : List Expr} {gpos : Pos} {scope : Scope} {own : List (Str × Nat)} {g : TG} {tt : TT} {te : TE} {U : List V → V → Hp → (Hp → Prop) → Prop} {Qd : List V → Hp → Prop} {k : Nat} {pins : List (Addr × Obj)} {σ : L2.St} {H3 : Hp} {s4 : Shared} {fp : List Addr} {it : Addr} {tn : Nat → Heap → Prop} {J : It} {W : Nat → Nat → List V → Hp → Prop} {m : Nat} {code : Value}
    (hr : Room k X.A) (hcalm : X.calm = true) (hN : X.N.Nodup) (ok : GOk X.N X.env.scope scope own)
    (hg : ∀ (s : Shared) (H : Hp) (C : Addr) (code : Value) (fp : List Addr) (pn : List (Addr × Obj)), PG (gcx X s H (genEnv scope (cloFrom X.env.cells scope.names []) C code builtinsNs X.env) fp pn (X.A.in1.in1.deeper (genEnv scope (cloFrom X.env.cells scope.names []) C code builtinsNs X.env))) tg g)
    (ht : ∀ (s : Shared) (H : Hp) (C : Addr) (code : Value) (fp : List Addr) (pn : List (Addr × Obj)), PTs (gcx X s H (genEnv scope (cloFrom X.env.cells scope.names []) C code builtinsNs X.env) fp pn (X.A.in1.in1.deeper (genEnv scope (cloFrom X.env.cells scope.names []) C code builtinsNs X.env))) ifs tt)
    (he : ∀ (s : Shared) (H : Hp) (C : Addr) (code : Value) (fp : List Addr) (pn : List (Addr × Obj)), PE (gcx X s H (genEnv scope (cloFrom X.env.cells scope.names []) C code builtinsNs X.env) fp pn (X.A.in1.in1.deeper (genEnv scope (cloFrom X.env.cells scope.names []) C code builtinsNs X.env))) elt te)
    (I4 : Inv X pins σ H3 s4) (T : Turn X.prog X.w X.K tg J fp it tn) (f3 : ∀ b ∈ fp, FpOk X pins H3 b ∧ b < s4.heap.objs.size) (st3 : tn 0 s4.heap) (hW : W 0 m [] H3) (turn : Turns J W g tt te U (own.map (·.2)) (wipe σ (own.map (·.2))) Qd) :
    ∀ h', h'.Ns s4.heap.objs.size (fun y => if y = ".0" then some (.ref it) else none) → Heap.SameBut s4.heap.objs.size (s4.heap.push { cls := .type "frame", data := .dict #[] }) h' →
          ∃ a gi n, Value.ref h'.objs.size = .ref a ∧ (h'.push { cls := .type "generator", data := .fields #[.int s4.gens.size 0, .str "<genexpr>" (s4.toks + 1), .str (X.env.qual ++ "<genexpr>") (s4.toks + 1 + 1)] }).IsGen a gi ∧ a < (h'.push { cls := .type "generator", data := .fields #[.int s4.gens.size 0, .str "<genexpr>" (s4.toks + 1), .str (X.env.qual ++ "<genexpr>") (s4.toks + 1 + 1)] }).objs.size ∧ ∀ S Gh, (∀ b ∈ S, (h'.push { cls := .type "generator", data := .fields #[.int s4.gens.size 0, .str "<genexpr>" (s4.toks + 1), .str (X.env.qual ++ "<genexpr>") (s4.toks + 1 + 1)] }).objs.size ≤ b) → Pull X pins σ U Qd a S Gh n [] { s4 with
            gens := s4.gens.push (.fresh (.compStart (.GeneratorExp elt [⟨tg, iter, ifs, 0⟩] scope gpos) 0 (.ref it) .none (genEnv scope (cloFrom X.env.cells scope.names []) s4.heap.objs.size code builtinsNs X.env))),
            toks := s4.toks + 1 + 1 + 1,
            heap := h'.push { cls := .type "generator", data := .fields #[.int s4.gens.size 0, .str "<genexpr>" (s4.toks + 1), .str (X.env.qual ++ "<genexpr>") (s4.toks + 1 + 1)] } } := by
  intro h' hn' sb
  have main : ∀ (go : Obj) (nm qn : Value) (tk2 : Nat), go.cls = .type "generator" → go.data = .fields #[.int s4.gens.size 0, nm, qn] → go.slots = #[] → (∀ h : Heap, (h.push go).get? h.objs.size = some go) →
      ∃ a gi n, Value.ref h'.objs.size = .ref a ∧ (h'.push go).IsGen a gi ∧ a < (h'.push go).objs.size ∧ ∀ S Gh, (∀ b ∈ S, (h'.push go).objs.size ≤ b) → Pull X pins σ U Qd a S Gh n [] { s4 with
            gens := s4.gens.push (.fresh (.compStart (.GeneratorExp elt [⟨tg, iter, ifs, 0⟩] scope gpos) 0 (.ref it) .none (genEnv scope (cloFrom X.env.cells scope.names []) s4.heap.objs.size code builtinsNs X.env))),
            toks := tk2, heap := h'.push go } := by
    intro go nm qn tk2 hgc hgd hgs hgp
    have hgen : ∀ h : Heap, h.get? h'.objs.size = some go → h.IsGen h'.objs.size s4.gens.size := fun h e => ⟨go, nm, qn, e, hgc, hgd, hgs⟩
    have hsz : h'.objs.size = s4.heap.objs.size + 1 := by rw [sb.1, Heap.size_push]
    have hsz2 : (h'.push go).objs.size = s4.heap.objs.size + 1 + 1 := by rw [Heap.size_push, hsz]
    have kp : ∀ b o, s4.heap.get? b = some o → (h'.push go).get? b = some o := fun b o e => Heap.get?_push_of_some _ (sb.extBut b o (Nat.ne_of_lt (Heap.lt_size e)) (Heap.get?_push_of_some _ e))
    have hgo : ∀ v, go.data ≠ .cell v := fun v q => by rw [hgd] at q; cases q
    have hA : ∀ cenv : Env, X.A.in1.in1.over (.compLoop (.GeneratorExp elt [⟨tg, iter, ifs, 0⟩] scope gpos) 0 (.ref it) .none cenv) [] = X.A.in1.in1.deeper cenv := fun cenv => rfl
    have Ig := gen_start (Ag := X.A.in1.in1.deeper (genEnv scope (cloFrom X.env.cells scope.names []) s4.heap.objs.size code builtinsNs X.env)) (go := go) (tk := tk2)
      (gs := .fresh (.compStart (.GeneratorExp elt [⟨tg, iter, ifs, 0⟩] scope gpos) 0 (.ref it) .none (genEnv scope (cloFrom X.env.cells scope.names []) s4.heap.objs.size code builtinsNs X.env))) I4 ok hN f3 hr.hd (by show X.A.frames.map _ = _; rw [I4.ok.frames]; rfl) hn' sb hgo rfl (hgp _)
    have pg := hg s4 H3 s4.heap.objs.size code fp [(h'.objs.size, go)]
    have pt := ht s4 H3 s4.heap.objs.size code fp [(h'.objs.size, go)]
    have pe := he s4 H3 s4.heap.objs.size code fp [(h'.objs.size, go)]
    refine ⟨h'.objs.size, s4.gens.size, m + 1, rfl, hgen _ (hgp _), by rw [Heap.size_push]; exact Nat.lt_succ_self _, fun S Gh hS => ?_⟩
    have hcs : cStatics < s4.heap.objs.size := let ⟨_, hns, _⟩ := I4.nolimit; hns.lt
    have old : ∀ b, b < s4.heap.objs.size → b ∉ S := fun b hb hm => by
      have q := hS b hm
      rw [hsz2] at q
      exact absurd (Nat.lt_of_lt_of_le hb (Nat.le_trans (Nat.le_succ_of_le (Nat.le_succ _)) q)) (Nat.lt_irrefl _)
    have haS : h'.objs.size ∉ S := fun hm => by
      have q := hS _ hm
      rw [hsz2, hsz] at q
      exact absurd (Nat.lt_of_lt_of_le (Nat.lt_succ_self _) q) (Nat.lt_irrefl _)
    have hk : SOk (gcx X s4 H3 (genEnv scope (cloFrom X.env.cells scope.names []) s4.heap.objs.size code builtinsNs X.env) fp [(h'.objs.size, go)] (X.A.in1.in1.deeper (genEnv scope (cloFrom X.env.cells scope.names []) s4.heap.objs.size code builtinsNs X.env))) S := by
      intro b hb
      have q := hS b hb
      rw [hsz2] at q
      refine ⟨fun e => ?_, fun hm => ?_, .inr (Nat.le_trans (Nat.le_succ_of_le (Nat.le_succ _)) q), fun x c e z => ?_, fun p hp e => ?_⟩
      · have e : b = s4.heap.objs.size := e
        rw [e] at q
        exact absurd (Nat.lt_of_lt_of_le (Nat.lt_succ_of_le (Nat.le_succ _)) q) (Nat.lt_irrefl _)
      · have hm : b ∈ frs X.stack := hm
        obtain ⟨_, o, ho, _⟩ := I4.stack.mem hm
        exact old b (Heap.lt_size ho) hb
      · obtain ⟨v, o, ho, _⟩ := Ig.cell x c e
        have q2 : c < s4.heap.objs.size := by
          have e : (cloFrom X.env.cells scope.names []).lookup x = some c := e
          rcases cloFrom_mem (PySem.mem_of_lookup e) with hm | ⟨h1, h2⟩
          · cases hm
          · have : ∃ c, X.env.cells.lookup x = some c := by
              rcases ok.blk.free _ h1 rfl with k | k
              · exact I4.ok.has _ (.inl k)
              · exact I4.ok.has _ (.inr k)
            obtain ⟨c', hc'⟩ := this
            rw [hc'] at h2
            have h2 : c = c' := h2
            rw [h2]
            obtain ⟨w, z⟩ := I4.cell _ _ hc'
            exact z.lt
        exact old c q2 (z ▸ hb)
      · rw [List.mem_singleton.mp hp] at e
        have e : h'.objs.size = b := e
        exact haS (by rw [e]; exact hb)
    refine pull_of (cenv := genEnv scope (cloFrom X.env.cells scope.names []) s4.heap.objs.size code builtinsNs X.env) (fp := fp) (go := go) (Ag := X.A.in1.in1.deeper (genEnv scope (cloFrom X.env.cells scope.names []) s4.heap.objs.size code builtinsNs X.env)) (g := s4.gens.size) (σw := wipe σ (own.map (·.2))) I4 (fun b hb => (f3 b hb).1) hr.hd hr.depth hgen haS (old _ hcs) (m + 1) [] _ _ (hgp _) (Array.getElem?_push_size ..) Ig.bare Ig.nolimit fun s' wk hG => ?_
    have hSn : ∀ b ∈ S, H3 b = none := fun b hb => Ig.hok.fresh (hS b hb)
    refine ⟨rfl, ?_⟩
    refine seg_start (X := gcx X s4 H3 (genEnv scope (cloFrom X.env.cells scope.names []) s4.heap.objs.size code builtinsNs X.env) fp [(h'.objs.size, go)] (X.A.in1.in1.deeper (genEnv scope (cloFrom X.env.cells scope.names []) s4.heap.objs.size code builtinsNs X.env))) rfl rfl hcalm T pg pt pe (hA _) ok.co hk (fun b hb => old b (f3 b hb).2) (fun b hb p hp e => ?_) turn (Nat.lt_succ_self m) hW hG (inv_wake Ig (hk.fp hSn) wk) (fun b hb => let ⟨o, e, _⟩ := wk.own b hb; ⟨o, e⟩) (T.keep _ _ _ st3 fun b hb o e => wk.keep b o (old b (f3 b hb).2) (kp b o e)) fun b hb => (f3 b hb).1.1
    rw [List.mem_singleton.mp hp] at e
    have q := (f3 b hb).2
    rw [← e] at q
    have q : h'.objs.size < s4.heap.objs.size := q
    rw [hsz] at q
    exact absurd (Nat.lt_of_succ_lt q) (Nat.lt_irrefl _)
  exact main _ _ _ _ rfl rfl rfl fun h => Heap.get?_push_size _ rfl

theorem gen_make {c P : Addr} {elt tg iter : Expr} {ifs : List Expr} {gpos : Pos} {scope : Scope} {own : List (Str × Nat)} {wi : TI} {g : TG} {tt : TT} {te : TE} {U : List V → V → Hp → (Hp → Prop) → Prop} {Qd : List V → Hp → Prop} {k : Nat} {pins : List (Addr × Obj)} {σ : L2.St} {H : Hp} {s : Shared}
    (hr : Room k X.A) (hcalm : X.calm = true) (hN : X.N.Nodup) (TB : TabB X.base X.mg c P) (hcode : X.env.code = .ref c) (ok : GOk X.N X.env.scope scope own) (hi : PI X tg iter wi)
    (hg : ∀ (s : Shared) (H : Hp) (C : Addr) (code : Value) (fp : List Addr) (pn : List (Addr × Obj)), PG (gcx X s H (genEnv scope (cloFrom X.env.cells scope.names []) C code builtinsNs X.env) fp pn (X.A.in1.in1.deeper (genEnv scope (cloFrom X.env.cells scope.names []) C code builtinsNs X.env))) tg g)
    (ht : ∀ (s : Shared) (H : Hp) (C : Addr) (code : Value) (fp : List Addr) (pn : List (Addr × Obj)), PTs (gcx X s H (genEnv scope (cloFrom X.env.cells scope.names []) C code builtinsNs X.env) fp pn (X.A.in1.in1.deeper (genEnv scope (cloFrom X.env.cells scope.names []) C code builtinsNs X.env))) ifs tt)
    (he : ∀ (s : Shared) (H : Hp) (C : Addr) (code : Value) (fp : List Addr) (pn : List (Addr × Obj)), PE (gcx X s H (genEnv scope (cloFrom X.env.cells scope.names []) C code builtinsNs X.env) fp pn (X.A.in1.in1.deeper (genEnv scope (cloFrom X.env.cells scope.names []) C code builtinsNs X.env))) elt te)
    (hs : ∀ v, genFold iter X.env v = pure v) (I : Inv X pins σ H s) (h : tGen P wi g tt te (own.map (·.2)) U Qd σ H) :
    wpAny (model X.prog X.w) X.A (eval (.GeneratorExp elt [⟨tg, iter, ifs, 0⟩] scope gpos) X.env) (fun u s5 => ∃ a gi n, u = .ref a ∧ s5.heap.IsGen a gi ∧ a < s5.heap.objs.size ∧ ∀ S Gh, (∀ b ∈ S, s5.heap.objs.size ≤ b) → Pull X pins σ U Qd a S Gh n [] s5) X.xe s := by
  have hcl : ∀ y ∈ scope.names, y.2 = .free → ∃ c, X.env.cells.lookup y.1 = some c := fun y hy e => by
    rcases ok.blk.free y hy e with k | k
    · exact I.ok.has _ (.inl k)
    · exact I.ok.has _ (.inr k)
  refine wpAny_GeneratorExp_make ok.co (closure_ok hcl) ok.cell ok.dot ok.blk.kind (by have := hr.dp; omega) ?_ hs
  refine thn (hi.run pins s σ H _ I h) fun xv s1 hx => thn hx fun itv s2 h2 => ?_
  obtain ⟨it, fp, tn, J, H2, e, I2, T, st2, f2, ⟨⟨ps, hP, ht3⟩, q⟩⟩ := h2
  subst e
  have hPs : s2.heap.get? P = some { cls := .none, data := .fields ps } := I2.hok P _ hP
  have hPlt : P < s2.heap.objs.size := Heap.lt_size hPs
  have cd : PySem.W.CodeHd s2.heap c P := TB.code.keeps fun b u e => I2.bk b u e
  have lim2 : s2.heap.NoLimit := I2.nolimit
  have cont : ∀ (code : Value) (h3 : Heap) (tk : Nat) (ps' : Array Value), Heap.ExtBut P s2.heap h3 → s2.heap.objs.size ≤ h3.objs.size → h3.get? P = some { cls := .none, data := .fields ps' } → (∃ more, ps' = ps ++ more) → TriplesOk ps'.toList →
      wpAny (model X.prog X.w) X.A (builtinsFor X.env.globals X.env.builtins) (fun bi s₄ =>
        ∀ h', h'.Ns s₄.heap.objs.size (fun y => if y = ".0" then some (.ref it) else none) → Heap.SameBut s₄.heap.objs.size (s₄.heap.push { cls := .type "frame", data := .dict #[] }) h' →
          ∃ a gi n, Value.ref h'.objs.size = .ref a ∧ (h'.push { cls := .type "generator", data := .fields #[.int s₄.gens.size 0, .str "<genexpr>" (s₄.toks + 1), .str (X.env.qual ++ "<genexpr>") (s₄.toks + 1 + 1)] }).IsGen a gi ∧ a < (h'.push { cls := .type "generator", data := .fields #[.int s₄.gens.size 0, .str "<genexpr>" (s₄.toks + 1), .str (X.env.qual ++ "<genexpr>") (s₄.toks + 1 + 1)] }).objs.size ∧ ∀ S Gh, (∀ b ∈ S, (h'.push { cls := .type "generator", data := .fields #[.int s₄.gens.size 0, .str "<genexpr>" (s₄.toks + 1), .str (X.env.qual ++ "<genexpr>") (s₄.toks + 1 + 1)] }).objs.size ≤ b) → Pull X pins σ U Qd a S Gh n [] { s₄ with
            gens := s₄.gens.push (.fresh (.compStart (.GeneratorExp elt [⟨tg, iter, ifs, 0⟩] scope gpos) 0 (.ref it) .none (genEnv scope (cloFrom X.env.cells scope.names []) s₄.heap.objs.size code bi X.env))),
            toks := s₄.toks + 1 + 1 + 1,
            heap := h'.push { cls := .type "generator", data := .fields #[.int s₄.gens.size 0, .str "<genexpr>" (s₄.toks + 1), .str (X.env.qual ++ "<genexpr>") (s₄.toks + 1 + 1)] } }) X.xe { s2 with heap := h3, toks := tk } := by
    intro code h3 tk ps' hx hsz hP3 hmore ht4
    obtain ⟨bm, ob, e1, e2, e3, e4, e5, e6, e7, e8⟩ := TB.bm
    have hcP : cStatics ≠ P := fun e => by
      obtain ⟨_, hns, _⟩ := lim2
      obtain ⟨o', es, ep, ho, hd, _⟩ := hns
      rw [e, hPs] at ho
      cases ho
      cases hd
    refine wpAny_builtinsFor (m := X.mg) (by rw [I2.ok.glob]; exact (I2.mod.glob.keeps I2.bk).extBut hx TB.gP) e1 e2 (hx _ _ e4 (I2.bk _ _ e5)) e6 e7 e8 ?_
    obtain ⟨more, em⟩ := hmore
    have J3 := inv_tab (more := more) (h' := h3) (g' := s2.gens) (d' := s2.drawn) (t' := tk) I2 hP (fun b u hb e => hx b u hb e) (by rw [← em]; exact hP3) I2.bare
    have TBd : Tabbed P H2 (upd H2 P (.tbl (ps ++ more))) := ⟨⟨ps ++ more, upd_same, by rw [← em]; exact ht4⟩, fun b hb => upd_ne hb⟩
    obtain ⟨W, ⟨m, hW⟩, turn⟩ := q _ TBd
    generalize hH3 : upd H2 P (.tbl (ps ++ more)) = H3 at J3 hW TBd
    have fpP : ∀ b ∈ fp, b ≠ P := fun b hb z => by
      have := (f2 b hb).1
      rw [z, hP] at this
      cases this
    have f3 : ∀ b ∈ fp, FpOk X pins H3 b ∧ b < h3.objs.size := fun b hb => by
      obtain ⟨o, eo, _⟩ := T.obj _ _ st2 b hb
      refine ⟨⟨?_, (f2 b hb).2⟩, Nat.lt_of_lt_of_le (Heap.lt_size eo) hsz⟩
      rw [TBd.2 b (fpP b hb)]
      exact (f2 b hb).1
    have st3 : tn 0 h3 := T.keep _ _ _ st2 fun b hb o e => hx b o (fpP b hb) e
    exact gen_laid hr hcalm hN ok hg ht he J3 T f3 st3 (by rw [← hH3] at *; exact hW) turn
  cases hf : codeAmong gpos ps.toList with
  | none =>
    refine ⟨lim2, wpAny_genexprCodeX hcode (cd.code hPs ht3) (cd.tab hPs) hf fun c' h' tk hx hge hlt hco' _ htab' _ => ?_⟩
    obtain ⟨o1, vs, f1, tf, fl, tg', inF, tx, tt', op, _, _, _, _, _, _, _, _, _, htr, _⟩ := hco'
    exact cont _ h' tk _ hx (Nat.le_trans hge (Nat.le_of_lt hlt)) htab'.2 ⟨_, rfl⟩ htr
  | some cv =>
    refine ⟨lim2, wpAny_genexprCode_hit hcode (cd.code hPs ht3) hf ?_⟩
    exact cont cv s2.heap s2.toks ps (Heap.ExtBut.refl _ _) (Nat.le_refl _) hPs ⟨#[], by simp⟩ ht3
end
end GenX

set_option Elab.async false
set_option linter.all false
set_option maxRecDepth 100000
set_option maxHeartbeats 2000000
/-! GenUse: any, all, sum, max, min of a generator expression. -/
namespace GenX
open PySem PySem.Spec PyProof.Rows L2 GxR GenW
section
variable {X : Cx} {pins : List (Addr × Obj)} {σ : L2.St} {U : List V → V → Hp → (Hp → Prop) → Prop} {Qd : List V → Hp → Prop} {a : Addr} {S : List Addr} {Gh : List V → Heap → Prop}
theorem Pull.elim {n : Nat} {ys : List V} {s s' : Shared} (h : Pull X pins σ U Qd a S Gh n ys s) (wq : Wq S s s') (hG : Gh ys s'.heap) :
    wpAny (model X.prog X.w) X.A.in1 (pyNext (.ref a)) (fun r s1 => KeepS S s' s1 ∧ match r with
    | none => ∃ ys H, Gh ys s'.heap ∧ Inv X pins σ H s1 ∧ Qd ys H
    | some v => ∃ ys y H Nx, Gh ys s'.heap ∧ RelV y v ∧ Inv X pins σ H s1 ∧ U ys y H Nx ∧ (Nx H → (∃ s'', Wq S s1 s'' ∧ Gh (ys ++ [y]) s''.heap) → ∃ m, m < n ∧ Pull X pins σ U Qd a S Gh m (ys ++ [y]) s1)) (fun _ _ => False) s' := by
  cases n with
  | zero =>
    refine thnF (h s' wq hG) fun r s1 ⟨k, q⟩ => ⟨k, ?_⟩
    cases r with
    | none => exact q
    | some v =>
      obtain ⟨ys', y, H, Nx, q1, q2, q3, q4, q5⟩ := q
      exact ⟨ys', y, H, Nx, q1, q2, q3, q4, fun hn ⟨s'', w, g⟩ => (q5 hn s'' w g).elim⟩
  | succ n =>
    refine thnF (h s' wq hG) fun r s1 ⟨k, q⟩ => ⟨k, ?_⟩
    cases r with
    | none => exact q
    | some v =>
      obtain ⟨ys', y, H, Nx, q1, q2, q3, q4, q5⟩ := q
      exact ⟨ys', y, H, Nx, q1, q2, q3, q4, fun hn _ => ⟨n, Nat.lt_succ_self _, q5 hn⟩⟩
theorem Wq.refl0 {s : Shared} : Wq [] s s := ⟨rfl, rfl, fun _ _ _ e => e, fun b hb => absurd hb (by simp)⟩

/-! ### any, all -/
def uAny (Q : VK) : List V → V → Hp → (Hp → Prop) → Prop := fun _ y H nx => ∃ c, y = .bl c ∧ if c = true then Q (.bl true) H else nx H
def uAll (Q : VK) : List V → V → Hp → (Hp → Prop) → Prop := fun _ y H nx => ∃ c, y = .bl c ∧ if c = true then nx H else Q (.bl false) H
theorem any_loop {Q : VK} : ∀ (n : Nat) (ys : List V) (s : Shared), Pull X pins σ (uAny Q) (fun _ => Q (.bl false)) a [] (fun _ _ => True) n ys s →
    codeAny (model X.prog X.w) X.A (.builtin "any.loop" ⟨[.ref a], []⟩) (fun r s' => ∃ b H, r = .ok (.ret (.bool b)) ∧ Inv X pins σ H s' ∧ Q (.bl b) H) s := by
  intro n
  induction n using Nat.strongRecOn with
  | ind n ih =>
    intro ys s hp
    refine codeAny_builtin F.entry_any_loop ?_
    rw [Around.under_plainId F.plain_any_loop _]
    show wpAny _ X.A.in1 (pyNext (.ref a) >>= _) _ _ s
    refine wpAny_bind (thnF (hp.elim .refl0 trivial) fun r s1 ⟨_, q⟩ => ?_)
    cases r with
    | none =>
      obtain ⟨_, H, _, I, q⟩ := q
      exact wpAny_bind (wpAny_rule (wpAny_pure ⟨false, H, rfl, I, q⟩))
    | some v =>
      obtain ⟨ys', y, H, Nx, _, r, I, ⟨c, rfl, u⟩, k⟩ := q
      obtain rfl : v = Value.bool c := r
      refine wpAny_bind (wpAny_holding (wpAny_truthy_bool ?_))
      refine wpAny_bind (wpAny_letGo ?_)
      cases c with
      | true =>
        simp only [if_true] at u ⊢
        exact wpAny_bind (wpAny_rule (wpAny_pure ⟨true, H, rfl, I, u⟩))
      | false =>
        simp only [Bool.false_eq_true, if_false] at u ⊢
        obtain ⟨m, hm, hp'⟩ := k u ⟨s1, .refl0, trivial⟩
        exact wpAny_pure ⟨plainId_quiet F.plain_any_loop _, ih m hm _ s1 hp'⟩
theorem all_loop {Q : VK} : ∀ (n : Nat) (ys : List V) (s : Shared), Pull X pins σ (uAll Q) (fun _ => Q (.bl true)) a [] (fun _ _ => True) n ys s →
    codeAny (model X.prog X.w) X.A (.builtin "all.loop" ⟨[.ref a], []⟩) (fun r s' => ∃ b H, r = .ok (.ret (.bool b)) ∧ Inv X pins σ H s' ∧ Q (.bl b) H) s := by
  intro n
  induction n using Nat.strongRecOn with
  | ind n ih =>
    intro ys s hp
    refine codeAny_builtin F.entry_all_loop ?_
    rw [Around.under_plainId F.plain_all_loop _]
    show wpAny _ X.A.in1 (pyNext (.ref a) >>= _) _ _ s
    refine wpAny_bind (thnF (hp.elim .refl0 trivial) fun r s1 ⟨_, q⟩ => ?_)
    cases r with
    | none =>
      obtain ⟨_, H, _, I, q⟩ := q
      exact wpAny_bind (wpAny_rule (wpAny_pure ⟨true, H, rfl, I, q⟩))
    | some v =>
      obtain ⟨ys', y, H, Nx, _, r, I, ⟨c, rfl, u⟩, k⟩ := q
      obtain rfl : v = Value.bool c := r
      refine wpAny_bind (wpAny_holding (wpAny_truthy_bool ?_))
      refine wpAny_bind (wpAny_letGo ?_)
      cases c with
      | false =>
        simp only [Bool.false_eq_true, if_false] at u ⊢
        exact wpAny_bind (wpAny_rule (wpAny_pure ⟨false, H, rfl, I, u⟩))
      | true =>
        simp only [if_true] at u ⊢
        obtain ⟨m, hm, hp'⟩ := k u ⟨s1, .refl0, trivial⟩
        exact wpAny_pure ⟨plainId_quiet F.plain_all_loop _, ih m hm _ s1 hp'⟩
/-- a generator expression as an argument, pulled by the call -/
structure PGX (X : Cx) (e : Expr) (t : (List V → V → Hp → (Hp → Prop) → Prop) → (List V → Hp → Prop) → L2.St → Hp → Prop) : Prop where
  run : ∀ (U : List V → V → Hp → (Hp → Prop) → Prop) (Qd : List V → Hp → Prop) (pins : List (Addr × Obj)) (s : Shared) (σ : L2.St) (H : Hp), Inv X pins σ H s → t U Qd σ H →
    wpAny (model X.prog X.w) X.A (eval e X.env) (fun u s5 => ∃ a gi n, u = .ref a ∧ s5.heap.IsGen a gi ∧ a < s5.heap.objs.size ∧ ∀ S Gh, (∀ b ∈ S, s5.heap.objs.size ≤ b) → Pull X pins σ U Qd a S Gh n [] s5) X.xe s
abbrev TGX := (List V → V → Hp → (Hp → Prop) → Prop) → (List V → Hp → Prop) → L2.St → Hp → Prop
def tAnyG (t : TGX) : TE := fun σ H Q => t (uAny Q) (fun _ => Q (.bl false)) σ H
def tAllG (t : TGX) : TE := fun σ H Q => t (uAll Q) (fun _ => Q (.bl true)) σ H
theorem pe_anyG {e : Expr} {t : TGX} {p pos : Pos} (hx : PGX X e t) (hg : Gl X "any") (hm : X.mg "any" = none)
    (he : starEach [e] X.env = (false, eval e X.env) :: starEach [] X.env := by rfl) :
    PE X (.Call (.Name "any" p) [e] [] pos) (tAnyG t) := by
  refine ⟨fun pins s σ H Q I h => ?_⟩
  refine wpAny_Call_Name_kw (ld_blt I hg hm boot_any ?_)
  refine PyProof.Rows.callWith_builtin1 ?_ he (by rfl)
  rw [he]
  show wpAny _ _ (spliced ((false, eval e X.env) :: backTo pos (starEach [] X.env))) _ _ s
  refine Calls.spliced_cons (thn (hx.run _ _ pins s σ H I h) fun u s5 ⟨a, gi, n, eu, hgen, _, hp⟩ => ?_)
  subst eu
  refine Calls.spliced_nil ?_
  refine call_function_tree F.kind_any F.plain_any F.entry_any (F.args_any1 _) ?_
  unfold Builtin.«any»
  refine wpAny_bind (m := oneArg "any" _) (wpAny_pure ?_)
  refine wpAny_bind (wpAny_pyIter_gen hgen ?_)
  refine wpAny_pure ⟨plainId_quiet F.plain_any_loop _, codeAny_mono (any_loop n [] s5 (hp [] _ (by simp))) fun r s' ⟨b, H', er, I', q⟩ => ?_⟩
  subst er
  exact ⟨.bl b, H', I', rfl, q⟩
theorem pe_allG {e : Expr} {t : TGX} {p pos : Pos} (hx : PGX X e t) (hg : Gl X "all") (hm : X.mg "all" = none)
    (he : starEach [e] X.env = (false, eval e X.env) :: starEach [] X.env := by rfl) :
    PE X (.Call (.Name "all" p) [e] [] pos) (tAllG t) := by
  refine ⟨fun pins s σ H Q I h => ?_⟩
  refine wpAny_Call_Name_kw (ld_blt I hg hm boot_all ?_)
  refine PyProof.Rows.callWith_builtin1 ?_ he (by rfl)
  rw [he]
  show wpAny _ _ (spliced ((false, eval e X.env) :: backTo pos (starEach [] X.env))) _ _ s
  refine Calls.spliced_cons (thn (hx.run _ _ pins s σ H I h) fun u s5 ⟨a, gi, n, eu, hgen, _, hp⟩ => ?_)
  subst eu
  refine Calls.spliced_nil ?_
  refine call_function_tree F.kind_all F.plain_all F.entry_all (F.args_all1 _) ?_
  unfold Builtin.«all»
  refine wpAny_bind (m := oneArg "all" _) (wpAny_pure ?_)
  refine wpAny_bind (wpAny_pyIter_gen hgen ?_)
  refine wpAny_pure ⟨plainId_quiet F.plain_all_loop _, codeAny_mono (all_loop n [] s5 (hp [] _ (by simp))) fun r s' ⟨b, H', er, I', q⟩ => ?_⟩
  subst er
  exact ⟨.bl b, H', I', rfl, q⟩
/-- the generator expression -/
theorem pg_gen {c P : Addr} {elt tg iter : Expr} {ifs : List Expr} {gpos : Pos} {scope : Scope} {own : List (Str × Nat)} {wi : TI} {g : TG} {tt : TT} {te : TE} {k : Nat}
    (hr : Room k X.A) (hcalm : X.calm = true) (hN : X.N.Nodup) (TB : TabB X.base X.mg c P) (hcode : X.env.code = .ref c) (ok : GOk X.N X.env.scope scope own) (hi : PI X tg iter wi)
    (hg : ∀ (s : Shared) (H : Hp) (C : Addr) (code : Value) (fp : List Addr) (pn : List (Addr × Obj)), PG (gcx X s H (genEnv scope (cloFrom X.env.cells scope.names []) C code builtinsNs X.env) fp pn (X.A.in1.in1.deeper (genEnv scope (cloFrom X.env.cells scope.names []) C code builtinsNs X.env))) tg g)
    (ht : ∀ (s : Shared) (H : Hp) (C : Addr) (code : Value) (fp : List Addr) (pn : List (Addr × Obj)), PTs (gcx X s H (genEnv scope (cloFrom X.env.cells scope.names []) C code builtinsNs X.env) fp pn (X.A.in1.in1.deeper (genEnv scope (cloFrom X.env.cells scope.names []) C code builtinsNs X.env))) ifs tt)
    (he : ∀ (s : Shared) (H : Hp) (C : Addr) (code : Value) (fp : List Addr) (pn : List (Addr × Obj)), PE (gcx X s H (genEnv scope (cloFrom X.env.cells scope.names []) C code builtinsNs X.env) fp pn (X.A.in1.in1.deeper (genEnv scope (cloFrom X.env.cells scope.names []) C code builtinsNs X.env))) elt te)
    (hs : ∀ v, genFold iter X.env v = pure v := by intro _; rfl) : PGX X (.GeneratorExp elt [⟨tg, iter, ifs, 0⟩] scope gpos) (tGen P wi g tt te (own.map (·.2))) :=
  ⟨fun U Qd pins s σ H I h => gen_make hr hcalm hN TB hcode ok hi hg ht he hs I (by exact h)⟩
/-! ### sum -/
def isum : List V → Int := fun ys => ys.foldl (fun acc y => match y with | .int z => acc + z | _ => acc) 0
theorem isum_snoc (ys : List V) (z : Int) : isum (ys ++ [.int z]) = isum ys + z := by unfold isum; rw [List.foldl_append]; rfl
abbrev sObj (vs : Array Value) (c : Nat) : Obj := { cls := .type "list", dict := none, data := .seq vs c, slots := #[] }
def GhSum (S : Addr) : List V → Heap → Prop := fun ys h => ∃ tA c, h.get? S = some (sObj #[.int (isum ys) tA] c)
def uSum : List V → V → Hp → (Hp → Prop) → Prop := fun ys y H nx => ∃ z, y = .int z ∧ InLong z ∧ InLong (isum ys + z) ∧ nx H
theorem sum_loop {Q : VK} {S : Addr} : ∀ (n : Nat) (ys : List V) (s s' : Shared), Pull X pins σ uSum (fun ys H => Q (.int (isum ys)) H) a [S] (GhSum S) n ys s → Wq [S] s s' → GhSum S ys s'.heap →
    codeAny (model X.prog X.w) X.A (.builtin "sum.loop" ⟨[.ref a, .ref S, rawInt 0, rawInt 0], []⟩) (fun r s' => ∃ z t H, r = .ok (.ret (.int z t)) ∧ Inv X pins σ H s' ∧ Q (.int z) H) s' := by
  intro n
  induction n using Nat.strongRecOn with
  | ind n ih =>
    intro ys s s' hp wq hG
    obtain ⟨tA, c, hS⟩ := id hG
    refine codeAny_builtin F.entry_sum_loop ?_
    rw [Around.under_plainId F.plain_sum_loop _]
    show wpAny _ X.A.in1 (seqItems? (.ref S) >>= _) _ _ s'
    refine wpAny_bind (wpAny_seqItems hS rfl ?_)
    show wpAny _ X.A.in1 (tryCatch (pyNext (.ref a)) _ >>= _) _ _ s'
    refine wpAny_bind (wpAny_tryCatch (thnF (hp.elim wq hG) fun r s1 ⟨hk, q⟩ => ?_))
    have same0 : ∀ {A B : Int} {t1 t2 : Tok} {c1 c2 : Nat}, s'.heap.get? S = some (sObj #[.int A t1] c1) → s'.heap.get? S = some (sObj #[.int B t2] c2) → B = A := fun {A B t1 t2 c1 c2} h1 h2 => by
      rw [h1] at h2
      cases h2
      rfl
    have same : ∀ ys', GhSum S ys' s'.heap → isum ys' = isum ys := fun ys' ⟨t', c', h'⟩ => same0 hS h'
    have hS' := hk S (by simp) _ hS
    cases r with
    | none =>
      obtain ⟨ys', H, g', I, q⟩ := q
      have q : Q (.int (isum ys')) H := q
      rw [same ys' g'] at q
      exact wpAny_pure ⟨_, tA, H, rfl, I, q⟩
    | some v =>
      obtain ⟨ys', y, H, Nx, g', r, I, ⟨z, rfl, ⟨f1, f2⟩, ⟨f3, f4⟩, u⟩, k⟩ := q
      rw [same ys' g'] at f3 f4
      obtain ⟨t, rfl⟩ := r
      have hc : ((decide (-(2 ^ 63) ≤ z) && decide (z < 2 ^ 63)) && (decide (-(2 ^ 63) ≤ isum ys + z) && decide (isum ys + z < 2 ^ 63))) = true := by
        simp only [Bool.and_eq_true, decide_eq_true_eq]
        exact ⟨⟨f1, f2⟩, f3, f4⟩
      show wpAny _ X.A.in1 (if (_ : Bool) = true then (mkInt (isum ys + z) >>= _) else _) _ _ _
      split
      · refine wpAny_bind (wpAny_mkInt ?_)
        show wpAny _ X.A.in1 (updateSeq S (fun _ => #[.int (isum ys + z) s1.toks]) >>= _) _ _ _
        refine wpAny_bind ?_
        refine wpAny_updateSeq hS' rfl (wpAny_pure ⟨plainId_quiet F.plain_sum_loop _, ?_⟩)
        have hS2 := Heap.get?_update_self (Obj.mapSeq (fun _ => #[.int (isum ys + z) s1.toks])) hS' rfl
        have wq2 : Wq [S] s1 { s1 with heap := s1.heap.update S (Obj.mapSeq (fun _ => #[.int (isum ys + z) s1.toks])), toks := s1.toks + 1 } := by
          refine ⟨rfl, rfl, fun b o hb e => (Heap.get?_update_other _ _ (fun h : S = b => hb (by rw [h]; exact List.mem_cons_self))).trans e, fun b hb => ?_⟩
          obtain rfl : b = S := by simpa using hb
          exact ⟨_, hS2, fun v q => by cases q⟩
        have g2 : ∀ ys'', isum ys'' = isum ys → GhSum S (ys'' ++ [.int z]) (s1.heap.update S (Obj.mapSeq (fun _ => #[.int (isum ys + z) s1.toks]))) := fun ys'' e => ⟨s1.toks, _, by rw [isum_snoc, e]; exact hS2⟩
        obtain ⟨m, hm, hp'⟩ := k u ⟨_, wq2, g2 ys' (same ys' g')⟩
        exact ih m hm _ s1 _ hp' wq2 (g2 ys' (same ys' g'))
      · rename_i hneg
        exact absurd hc hneg
def tSumG (t : TGX) : TE := fun σ H Q => t uSum (fun ys H => Q (.int (isum ys)) H) σ H
theorem pe_sumG {e : Expr} {t : TGX} {p pos : Pos} (hx : PGX X e t) (hg : Gl X "sum") (hm : X.mg "sum" = none)
    (he : starEach [e] X.env = (false, eval e X.env) :: starEach [] X.env := by rfl) :
    PE X (.Call (.Name "sum" p) [e] [] pos) (tSumG t) := by
  refine ⟨fun pins s σ H Q I h => ?_⟩
  refine wpAny_Call_Name_kw (ld_blt I hg hm boot_sum ?_)
  refine PyProof.Rows.callWith_builtin1 ?_ he (by rfl)
  rw [he]
  show wpAny _ _ (spliced ((false, eval e X.env) :: backTo pos (starEach [] X.env))) _ _ s
  refine Calls.spliced_cons (thn (hx.run _ _ pins s σ H I h) fun u s5 ⟨a, gi, n, eu, hgen, _, hp⟩ => ?_)
  subst eu
  refine Calls.spliced_nil ?_
  refine call_function_tree F.kind_sum F.plain_sum F.entry_sum (F.args_sum1 _) ?_
  unfold Builtin.«sum»
  simp only [List.length_cons, List.length_nil]
  rw [if_neg (by decide)]
  refine wpAny_bind (wpAny_of_eq (show Builtin.Builtins.bindParams "sum" ["start"] 0 { } = pure [none] from rfl) ?_)
  refine wpAny_bind (wpAny_pyIter_gen hgen ?_)
  refine wpAny_bind (wpAny_mkInt ?_)
  refine wpAny_bind (wpAny_pure ?_)
  simp only [List.forIn_cons, List.forIn_nil]
  refine wpAny_bind (wpAny_bind (wpAny_bind (wpAny_isInstance (T := "int") (b := false) (typeIs_int _ _ _) PySem.sub_int_str ?_)))
  simp only [Bool.false_eq_true, if_false]
  refine wpAny_pure (wpAny_bind (wpAny_bind (wpAny_isInstance (T := "int") (b := false) (typeIs_int _ _ _) PySem.sub_int_bytes ?_)))
  simp only [Bool.false_eq_true, if_false]
  refine wpAny_pure (wpAny_bind (wpAny_bind (wpAny_isInstance (T := "int") (b := false) (typeIs_int _ _ _) PySem.sub_int_bytearray ?_)))
  simp only [Bool.false_eq_true, if_false]
  refine wpAny_pure (wpAny_pure ?_)
  refine wpAny_bind (wpAny_newObj_type ?_)
  have hS : (s5.heap.push { cls := .type "list", data := .seq #[.int 0 s5.toks] }).get? s5.heap.objs.size = some (sObj #[.int 0 s5.toks] _) := Heap.get?_push_size _ rfl
  refine wpAny_pure ⟨plainId_quiet F.plain_sum_loop _, codeAny_mono (sum_loop (S := s5.heap.objs.size) n [] s5 _ (hp [s5.heap.objs.size] (GhSum _) (by simp)) ⟨rfl, rfl, fun b o _ e => Heap.get?_push_of_some _ e, fun b hb => ?_⟩ ⟨_, _, hS⟩) fun r s' ⟨z, t, H', er, I', q⟩ => ?_⟩
  · obtain rfl : b = s5.heap.objs.size := by simpa using hb
    exact ⟨_, hS, fun v q => by cases q⟩
  · subst er
    exact ⟨.int z, H', I', ⟨t, rfl⟩, q⟩
end
end GenX

set_option Elab.async false
set_option linter.all false
set_option maxRecDepth 100000
set_option maxHeartbeats 2000000
/-! FrzT: the makers of tuples, told with the object (its dict is none), so that a tuple's methods can be called: display, tuple(xs), slices, t + u. -/
namespace FrzT
open PySem PySem.Spec PyProof.Rows L2
/-- a tuple whose object has no dict -/
def TupF (H : Hp) (a : Addr) (xs : List V) : Prop := ∃ o : Obj, H a = some (.frz o (.tup xs)) ∧ o.cls = .type "tuple" ∧ o.dict = none
theorem TupF.rd {H : Hp} {a : Addr} {xs : List V} (h : TupF H a xs) : Rd H a (.tup xs) := let ⟨o, e, _⟩ := h; .inr ⟨o, e⟩
/-- laid anew at q -/
def LayT (H : Hp) (xs : List V) (Q : VK) : Prop := ∀ q o, H q = none → o.cls = .type "tuple" → o.dict = none → Q (.ref q) (upd H q (.frz o (.tup xs)))
theorem lay_frz {X : Cx} {pins : List (Addr × Obj)} {σ : L2.St} {H : Hp} {s : Shared} {Q : VK} {its : List Value} {ys : List V} (I : Inv X pins σ H s) (r : Vals ys its) (hz : ys.length ≤ sizeLine) (q : LayT H ys Q) :
    EP X pins σ Q (.ref s.heap.objs.size) { s with heap := s.heap.push { cls := .type "tuple", data := .seq its.toArray } } :=
  ⟨.ref s.heap.objs.size, upd H s.heap.objs.size (.frz { cls := .type "tuple", data := .seq its.toArray } (.tup ys)), I.laid (t' := s.toks) (fun b u e => Heap.get?_push_of_some _ e) (Nat.le_refl _) (show ObjOk X.prog X.w _ _ _ (.frz { cls := .type "tuple", data := .seq its.toArray } (.tup ys)) from ⟨Heap.get?_push_size _ rfl, hz, its, r, IsTup.new _ _⟩), rfl, q _ _ (I.hok.fresh (Nat.le_refl _)) rfl rfl⟩
section
variable {X : Cx} {es : List Expr} {t : TA} {pos : Pos}
def tTupF (t : TA) : TE := fun σ H Q => t σ H fun vs H1 => vs.length ≤ sizeLine ∧ LayT H1 vs Q
theorem pe_tupF {x1} (h : PA X es t) : PE X (.Tuple es x1 pos) (tTupF t) := by
  refine ⟨fun pins s σ H Q I hq => ?_⟩
  refine wpAny_Tuple_spliced (thn (h.run pos pins s σ H _ I hq) fun us s1 ⟨xs, H1, I1, r, z, q⟩ => ⟨by rw [← r.length]; exact z, ?_⟩)
  have hf : H1 s1.heap.objs.size = none := I1.hok.fresh (Nat.le_refl _)
  refine ⟨.ref s1.heap.objs.size, upd H1 s1.heap.objs.size (.frz { cls := .type "tuple", data := .seq us.toArray } (.tup xs)), I1.laid (t' := s1.toks) (fun b u e => Heap.get?_push_of_some _ e) (Nat.le_refl _) ?_, rfl, q _ _ hf rfl rfl⟩
  exact ⟨Heap.get?_push_size _ rfl, z, us, r, ⟨_, Heap.get?_push_size _ rfl, rfl, _, rfl⟩⟩
theorem call_tuple_ofF : CallR X (.type "tuple") (fun xs H Q => ∃ p ys, xs = [.ref p] ∧ ((SqL X.K H p ys ∧ LayT H ys Q) ∨ (SqT X.K H p ys ∧ Q (.ref p) H))) := by
  intro pins s σ H xs us Q I r h
  obtain ⟨p, ys, rfl, h⟩ := h
  obtain ⟨u, rfl, rx⟩ := vals1 r
  cases rx
  rcases h with ⟨hq, q⟩ | ⟨hq, q⟩
  · obtain ⟨its, r', pl, hz⟩ := I.list hq
    have hlen := r'.length
    refine call_tuple_list pl.isList (fun h' kp => ?_) (by simp only [List.size_toArray] <;> omega)
    have I1 : Inv X pins σ H { s with heap := h' } := I.kept (t' := s.toks) kp
    have I2 : Inv X pins σ (upd H h'.objs.size (.frz { cls := .type "tuple", data := .seq its.toArray } (.tup ys))) { s with heap := h'.push { cls := .type "tuple", data := .seq its.toArray } } :=
      I1.laid (t' := s.toks) (fun b o e => Heap.get?_push_of_some _ e) (Nat.le_refl _) (show ObjOk X.prog X.w _ _ _ (.frz { cls := .type "tuple", data := .seq its.toArray } (.tup ys)) from ⟨Heap.get?_push_size _ rfl, hz, its, r', IsTup.new _ _⟩)
    exact ⟨.ref h'.objs.size, _, I2, rfl, q _ _ (I1.hok.fresh (Nat.le_refl _)) rfl rfl⟩
  · obtain ⟨its, r', pl, hz⟩ := I.tuple hq
    exact call_tuple_same pl ⟨.ref p, H, I, rfl, q⟩
def rSlTF (K : PySem.W.Frag) : V → Option Int → Option Int → Hp → VK → Prop := fun x lo hi H Q => ∃ a xs, x = .ref a ∧ SqT K H a xs ∧
  ¬ (HT.sIx xs.length 0 lo = 0 ∧ HT.sIx xs.length xs.length hi = xs.length) ∧ LayT H (cutV xs lo hi) Q
theorem sl_tupF : SlR X (rSlTF X.K) := by
  intro pins s σ H x v vl vu lo hi sl Q I rx hs pl pu h
  obtain ⟨a, xs, rfl, hx, hw, q⟩ := h
  cases rx
  obtain ⟨its, r, ht, hz⟩ := I.tuple hx
  have hlen : its.toArray.size = xs.length := by rw [List.size_toArray]; exact r.length.symm
  refine ⟨"tuple", _, PyProof.Rows.slot_tuple_getitem.lookup, ht.typeIs, ?_⟩
  refine HT.getItem_tuple_cut ht hs pl pu (by rw [hlen]; exact hw) ?_ (by rw [hlen]; exact hz)
  rw [hlen]
  exact lay_frz I ((r.drop (HT.sIx xs.length 0 lo)).take (HT.sIx xs.length xs.length hi - HT.sIx xs.length 0 lo)) (Nat.le_trans (cutV_length xs lo hi) hz) q
def rCatTF (K : PySem.W.Frag) : R2 := fun x y H Q => ∃ a b xs ys, x = .ref a ∧ y = .ref b ∧ SqT K H a xs ∧ SqT K H b ys ∧ xs ≠ [] ∧ xs.length + ys.length ≤ sizeLine ∧
  (ys = [] → Q (.ref a) H) ∧ (ys ≠ [] → LayT H (xs ++ ys) Q)
theorem op_catTF : OpR X (binaryOp .Add) (rCatTF X.K) := by
  intro pins s σ H x y v u Q I rx ry h
  obtain ⟨a, b, xs, ys, rfl, rfl, ha, hb, hx, hz, q1, q2⟩ := h
  cases rx
  cases ry
  obtain ⟨its, r1, p1, _⟩ := I.tuple ha
  obtain ⟨its2, r2, p2, _⟩ := I.tuple hb
  refine HT.cat_tup p1 p2 (fun z => hx (r1.nil_iff.mp z)) (fun z => ⟨.ref a, H, I, rfl, q1 (r2.nil_iff.mp z)⟩) (fun z => ?_) (by rw [← r1.length, ← r2.length]; exact hz)
  exact lay_frz I (r1.append r2) (by rw [List.length_append]; exact hz) (q2 fun w => z (r2.nil_iff.mpr w))
def rCatAF (K : PySem.W.Frag) : R2 := fun x y H Q => ∃ a b xs ys, x = .ref a ∧ y = .ref b ∧ SqT K H a xs ∧ SqT K H b ys ∧ xs.length + ys.length ≤ sizeLine ∧
  (xs = [] → Q (.ref b) H) ∧ (xs ≠ [] → ys = [] → Q (.ref a) H) ∧ (xs ≠ [] → ys ≠ [] → LayT H (xs ++ ys) Q)
theorem op_catAF : OpR X (binaryOp .Add) (rCatAF X.K) := by
  intro pins s σ H x y v u Q I rx ry h
  obtain ⟨a, b, xs, ys, rfl, rfl, ha, hb, hz, q0, q1, q2⟩ := h
  by_cases hx : xs = []
  · exact op_catA pins s σ H _ _ v u Q I rx ry ⟨a, b, xs, ys, rfl, rfl, ha, hb, hz, q0, fun z => absurd hx z, fun z => absurd hx z⟩
  · exact op_catTF pins s σ H _ _ v u Q I rx ry ⟨a, b, xs, ys, rfl, rfl, ha, hb, hx, hz, q1 hx, q2 hx⟩
def rSlAF (K : PySem.W.Frag) : V → Option Int → Option Int → Hp → VK → Prop := fun x lo hi H Q => ∃ a xs, x = .ref a ∧ SqT K H a xs ∧
  (HT.sIx xs.length 0 lo = 0 ∧ HT.sIx xs.length xs.length hi = xs.length → Q (.ref a) H) ∧ (¬ (HT.sIx xs.length 0 lo = 0 ∧ HT.sIx xs.length xs.length hi = xs.length) → LayT H (cutV xs lo hi) Q)
theorem sl_tupAF : SlR X (rSlAF X.K) := by
  intro pins s σ H x v vl vu lo hi sl Q I rx hs pl pu h
  obtain ⟨a, xs, rfl, hx, q1, q2⟩ := h
  by_cases hw : HT.sIx xs.length 0 lo = 0 ∧ HT.sIx xs.length xs.length hi = xs.length
  · exact sl_tupA pins s σ H _ v vl vu lo hi sl Q I rx hs pl pu ⟨a, xs, rfl, hx, q1, fun z => absurd hw z⟩
  · exact sl_tupF pins s σ H _ v vl vu lo hi sl Q I rx hs pl pu ⟨a, xs, rfl, hx, hw, q2 hw⟩
end
end FrzT

set_option Elab.async false
set_option linter.all false
set_option maxRecDepth 100000
set_option maxHeartbeats 2000000
/-! PDa: the data that a def computes, without the heap. rd: an expression's reading by what it makes of data. -/
namespace PD
open PySem PySem.Spec PyProof.Rows L2 GxR
abbrev D := PyData
def kD : Key → D
  | .inl i => .int i
  | .inr x => .str x
/-- a list, a tuple of the module -/
def KL (K : PySem.W.Frag) (a : Addr) (xs : List V) : Prop := ∃ (o : Obj) (its : Array Value) (n : Nat), K.lookup a = some o ∧ o.cls = .type "list" ∧ o.dict = none ∧ o.data = .seq its n ∧ its.size ≤ sizeLine ∧ Vals xs its.toList
def KT (K : PySem.W.Frag) (a : Addr) (xs : List V) : Prop := ∃ (o : Obj) (its : Array Value) (n : Nat), K.lookup a = some o ∧ o.cls = .type "tuple" ∧ o.dict = none ∧ o.data = .seq its n ∧ its.size ≤ sizeLine ∧ Vals xs its.toList
theorem KT.sq {K : PySem.W.Frag} {a : Addr} {xs : List V} (h : KT K a xs) : ∃ (o : Obj) (its : Array Value) (n : Nat), K.lookup a = some o ∧ o.cls = .type "tuple" ∧ o.data = .seq its n ∧ its.size ≤ sizeLine ∧ Vals xs its.toList := let ⟨o, its, n, e, c, _, r⟩ := h; ⟨o, its, n, e, c, r⟩
def hashT (ks : List Int) : Int := PySem.reduceHash (PySem.Builtin.Tuple.tupleHashOf (ks.map PySem.hashInt))
/-- the dict at a: its keys are tuples of ints -/
def TDict (a : Addr) (xs : List (List Int × Addr × Value)) (h : Heap) : Prop :=
  (a == sysModules) = false ∧ xs.length ≤ sizeLine ∧ ∃ o es ep, h.get? a = some o ∧ o.ExactDict ∧ o.data = .dict es ep ∧ es.toList = xs.map (fun x => (⟨hashT x.1, .ref x.2.1, x.2.2⟩ : DictEntry)) ∧ (xs.map (·.1)).Nodup
/-- the tuple of ints ks at b -/
def KeyAt (K : PySem.W.Frag) (S : Addr → Prop) (H : Hp) (b : Addr) (ks : List Int) : Prop := (¬ S b ∧ FrzT.TupF H b (ks.map V.int)) ∨ KT K b (ks.map V.int)
/-- data of a dict with tuples for keys: its first key is no key -/
def isT : List (D × D) → Bool
  | (.list _, _) :: _ => true
  | _ => false
mutual
/-- the value is the data; the lists, tuples and dicts stand outside S -/
inductive RelD (K : PySem.W.Frag) (S : Addr → Prop) (H : Hp) : V → D → Prop
  | non : RelD K S H .non .none
  | bl (b : Bool) : RelD K S H (.bl b) (.bool b)
  | int (i : Int) : RelD K S H (.int i) (.int i)
  | str (x : Str) : RelD K S H (.str x) (.str x)
  | lst {a : Addr} {xs : List V} {ds : List D} : ¬ S a → Rd H a (.lst xs) → RelDs K S H xs ds → RelD K S H (.ref a) (.list ds)
  | lstK {a : Addr} {xs : List V} {ds : List D} : KL K a xs → RelDs K S H xs ds → RelD K S H (.ref a) (.list ds)
  | tup {a : Addr} {xs : List V} {ds : List D} : ¬ S a → FrzT.TupF H a xs → RelDs K S H xs ds → RelD K S H (.ref a) (.tuple ds)
  | tupK {a : Addr} {xs : List V} {ds : List D} : KT K a xs → RelDs K S H xs ds → RelD K S H (.ref a) (.tuple ds)
  | dic {a : Addr} {kvs : List (Key × V)} {ds : List (D × D)} : ¬ S a → Rd H a (.dK kvs) → RelKs K S H kvs ds → RelD K S H (.ref a) (.dict ds)
  | dit {a : Addr} {xs : List (List Int × Addr × Value)} {ds : List (D × D)} : ¬ S a → H a = some (.ext (TDict a xs)) → RelMk K S H xs ds → RelD K S H (.ref a) (.dict ds)
inductive RelDs (K : PySem.W.Frag) (S : Addr → Prop) (H : Hp) : List V → List D → Prop
  | nil : RelDs K S H [] []
  | cons {v : V} {vs : List V} {d : D} {ds : List D} : RelD K S H v d → RelDs K S H vs ds → RelDs K S H (v :: vs) (d :: ds)
inductive RelKs (K : PySem.W.Frag) (S : Addr → Prop) (H : Hp) : List (Key × V) → List (D × D) → Prop
  | nil : RelKs K S H [] []
  | cons {k : Key} {v : V} {kvs : List (Key × V)} {d : D} {ds : List (D × D)} : RelD K S H v d → RelKs K S H kvs ds → RelKs K S H ((k, v) :: kvs) ((kD k, d) :: ds)
inductive RelMk (K : PySem.W.Frag) (S : Addr → Prop) (H : Hp) : List (List Int × Addr × Value) → List (D × D) → Prop
  | mk {xs : List (List Int × Addr × Value)} {ds : List (D × D)} : RelTs K S H xs ds → RelMk K S H xs ((.list [], .none) :: ds)
inductive RelTs (K : PySem.W.Frag) (S : Addr → Prop) (H : Hp) : List (List Int × Addr × Value) → List (D × D) → Prop
  | nil : RelTs K S H [] []
  | cons {ks : List Int} {b : Addr} {u : Value} {v : V} {d : D} {xs : List (List Int × Addr × Value)} {ds : List (D × D)} : KeyAt K S H b ks → RelV v u → RelD K S H v d → RelTs K S H xs ds → RelTs K S H ((ks, b, u) :: xs) ((.tuple (ks.map .int), d) :: ds)
end
/-- H' is H but for C; tables may have grown -/
structure Gro (C : Addr → Prop) (H H' : Hp) : Prop where
  keep : ∀ a o, H a = some o → ¬ C a → (∀ ps, o ≠ .tbl ps) → H' a = some o
  tabs : ∀ P, TabG H P → TabG H' P
  live : ∀ a, H a ≠ none → H' a ≠ none
/-- more is laid -/
def Ext (H H' : Hp) : Prop := ∀ a o, H a = some o → H' a = some o
theorem Ext.refl (H : Hp) : Ext H H := fun _ _ e => e
theorem Ext.trans {H H1 H2 : Hp} (a : Ext H H1) (b : Ext H1 H2) : Ext H H2 := fun x o e => b x o (a x o e)
theorem Ext.new {H : Hp} {p : Addr} {o : HO} (h : H p = none) : Ext H (upd H p o) := fun a u e => by rw [upd_ne (ne_of_none e h)]; exact e
theorem Ext.live {H H' : Hp} (h : Ext H H') {a : Addr} (n : H a ≠ none) : H' a ≠ none := by
  cases q : H a with
  | none => exact absurd q n
  | some o => rw [h a o q]; simp
theorem Ext.gro {C : Addr → Prop} {H H' : Hp} (h : Ext H H') : Gro C H H' := ⟨fun a o e _ _ => h a o e, fun P ⟨ps, e, t⟩ => ⟨ps, h _ _ e, t⟩, fun a n => h.live n⟩
theorem Gro.refl {C : Addr → Prop} (H : Hp) : Gro C H H := (Ext.refl H).gro
theorem Gro.trans {C : Addr → Prop} {H H1 H2 : Hp} (a : Gro C H H1) (b : Gro C H1 H2) : Gro C H H2 := ⟨fun x o e n t => b.keep x o (a.keep x o e n t) n t, fun P t => b.tabs P (a.tabs P t), fun x n => b.live x (a.live x n)⟩
theorem Gro.mono {C C' : Addr → Prop} {H H' : Hp} (h : Gro C H H') (hc : ∀ a, C a → C' a) : Gro C' H H' := ⟨fun a o e n t => h.keep a o e (fun z => n (hc a z)) t, h.tabs, h.live⟩
theorem Gro.tabbed {C : Addr → Prop} {P : Addr} {H H' : Hp} (h0 : TabG H P) (h : Tabbed P H H') : Gro C H H' := by
  obtain ⟨ps, e0, _⟩ := h0
  refine ⟨fun a o e _ n => ?_, fun P' t => ?_, fun a n => ?_⟩
  · by_cases hb : a = P
    · rw [hb, e0] at e
      exact absurd (Option.some.inj e).symm (n ps)
    · rw [h.2 a hb]; exact e
  · by_cases hb : P' = P
    · rw [hb]; exact h.1
    · obtain ⟨qs, e, t⟩ := t
      exact ⟨qs, by rw [h.2 P' hb]; exact e, t⟩
  · by_cases hb : a = P
    · obtain ⟨qs, e, _⟩ := h.1
      rw [hb, e]; simp
    · rw [h.2 a hb]; exact n
section
variable {K : PySem.W.Frag} {S S' C : Addr → Prop} {H H' : Hp}
theorem Gro.rd {a : Addr} {u : HO} (g : Gro C H H') (hn : ¬ C a) (hu : ∀ ps, u ≠ .tbl ps) (h : Rd H a u) : Rd H' a u := by
  rcases h with h | ⟨o, h⟩
  · exact .inl (g.keep _ _ h hn hu)
  · exact .inr ⟨o, g.keep _ _ h hn fun ps z => nomatch z⟩
theorem Gro.tupF {a : Addr} {xs : List V} (g : Gro C H H') (hn : ¬ C a) (h : FrzT.TupF H a xs) : FrzT.TupF H' a xs := let ⟨o, e, c, d⟩ := h; ⟨o, g.keep _ _ e hn (fun ps z => nomatch z), c, d⟩
theorem Gro.sqL {a : Addr} {xs : List V} (g : Gro C H H') (hn : ¬ C a) (h : SqL K H a xs) : SqL K H' a xs := h.imp (g.rd hn fun ps z => nomatch z) id
theorem Gro.sqT {a : Addr} {xs : List V} (g : Gro C H H') (hn : ¬ C a) (h : SqT K H a xs) : SqT K H' a xs := h.imp (g.rd hn fun ps z => nomatch z) id
mutual
theorem RelD.mono' (g : Gro C H H') (h1 : ∀ a, S' a → S a) (h2 : ∀ a, C a → S a) : ∀ (d : D) (v : V), RelD K S H v d → RelD K S' H' v d
  | .none, _, h => by cases h; exact .non
  | .bool b, _, h => by cases h; exact .bl b
  | .int b, _, h => by cases h; exact .int b
  | .str b, _, h => by cases h; exact .str b
  | .list ds, _, h => by
    cases h with
    | lst n s r => exact .lst (fun z => n (h1 _ z)) (g.rd (fun z => n (h2 _ z)) (fun ps z => nomatch z) s) (RelDs.mono' g h1 h2 ds _ r)
    | lstK s r => exact .lstK s (RelDs.mono' g h1 h2 ds _ r)
  | .tuple ds, _, h => by
    cases h with
    | tup n s r => exact .tup (fun z => n (h1 _ z)) (g.tupF (fun z => n (h2 _ z)) s) (RelDs.mono' g h1 h2 ds _ r)
    | tupK s r => exact .tupK s (RelDs.mono' g h1 h2 ds _ r)
  | .dict ds, _, h => by
    cases h with
    | dic n s r => exact .dic (fun z => n (h1 _ z)) (g.rd (fun z => n (h2 _ z)) (fun ps z => nomatch z) s) (RelKs.mono' g h1 h2 ds _ r)
    | dit n s r => exact .dit (fun z => n (h1 _ z)) (g.keep _ _ s (fun z => n (h2 _ z)) (fun ps z => nomatch z)) (RelMk.mono' g h1 h2 ds _ r)
theorem RelDs.mono' (g : Gro C H H') (h1 : ∀ a, S' a → S a) (h2 : ∀ a, C a → S a) : ∀ (d : List D) (v : List V), RelDs K S H v d → RelDs K S' H' v d
  | [], _, h => by cases h; exact .nil
  | d :: ds, _, h => by
    cases h with
    | cons r t => exact .cons (RelD.mono' g h1 h2 d _ r) (RelDs.mono' g h1 h2 ds _ t)
theorem RelKs.mono' (g : Gro C H H') (h1 : ∀ a, S' a → S a) (h2 : ∀ a, C a → S a) : ∀ (d : List (D × D)) (v : List (Key × V)), RelKs K S H v d → RelKs K S' H' v d
  | [], _, h => by cases h; exact .nil
  | (k, d) :: ds, _, h => by
    cases h with
    | cons r t => exact .cons (RelD.mono' g h1 h2 d _ r) (RelKs.mono' g h1 h2 ds _ t)
theorem RelMk.mono' (g : Gro C H H') (h1 : ∀ a, S' a → S a) (h2 : ∀ a, C a → S a) : ∀ (d : List (D × D)) (v : List (List Int × Addr × Value)), RelMk K S H v d → RelMk K S' H' v d
  | [], _, h => by cases h
  | (k, d) :: ds, _, h => by
    cases h with
    | mk r => exact .mk (RelTs.mono' g h1 h2 ds _ r)
theorem RelTs.mono' (g : Gro C H H') (h1 : ∀ a, S' a → S a) (h2 : ∀ a, C a → S a) : ∀ (d : List (D × D)) (v : List (List Int × Addr × Value)), RelTs K S H v d → RelTs K S' H' v d
  | [], _, h => by cases h; exact .nil
  | (k, d) :: ds, _, h => by
    cases h with
    | cons s q r t => exact .cons (s.imp (fun ⟨n, s⟩ => ⟨fun z => n (h1 _ z), g.tupF (fun z => n (h2 _ z)) s⟩) id) q (RelD.mono' g h1 h2 d _ r) (RelTs.mono' g h1 h2 ds _ t)
end
theorem RelD.mono {v : V} {d : D} (r : RelD K S H v d) (g : Gro C H H') (h1 : ∀ a, S' a → S a) (h2 : ∀ a, C a → S a) : RelD K S' H' v d := RelD.mono' g h1 h2 _ _ r
theorem RelDs.mono {v : List V} {d : List D} (r : RelDs K S H v d) (g : Gro C H H') (h1 : ∀ a, S' a → S a) (h2 : ∀ a, C a → S a) : RelDs K S' H' v d := RelDs.mono' g h1 h2 _ _ r
theorem RelKs.mono {v : List (Key × V)} {d : List (D × D)} (r : RelKs K S H v d) (g : Gro C H H') (h1 : ∀ a, S' a → S a) (h2 : ∀ a, C a → S a) : RelKs K S' H' v d := RelKs.mono' g h1 h2 _ _ r
/-- an address that is not tracked is avoided -/
theorem Rd.some {a : Addr} {u : HO} (h : Rd H a u) : H a ≠ none := by
  rcases h with h | ⟨o, h⟩ <;> rw [h] <;> simp
mutual
theorem RelD.away' {p : Addr} (hp : H p = none) (h1 : ∀ a, S' a → S a ∨ a = p) : ∀ (d : D) (v : V), RelD K S H v d → RelD K S' H v d
  | .none, _, h => by cases h; exact .non
  | .bool b, _, h => by cases h; exact .bl b
  | .int b, _, h => by cases h; exact .int b
  | .str b, _, h => by cases h; exact .str b
  | .list ds, _, h => by
    cases h with
    | lst n s r => exact .lst (fun z => (h1 _ z).elim n fun e => Rd.some s (e ▸ hp)) s (RelDs.away' hp h1 ds _ r)
    | lstK s r => exact .lstK s (RelDs.away' hp h1 ds _ r)
  | .tuple ds, _, h => by
    cases h with
    | tup n s r => exact .tup (fun z => (h1 _ z).elim n fun e => Rd.some s.rd (e ▸ hp)) s (RelDs.away' hp h1 ds _ r)
    | tupK s r => exact .tupK s (RelDs.away' hp h1 ds _ r)
  | .dict ds, _, h => by
    cases h with
    | dic n s r => exact .dic (fun z => (h1 _ z).elim n fun e => Rd.some s (e ▸ hp)) s (RelKs.away' hp h1 ds _ r)
    | dit n s r => exact .dit (fun z => (h1 _ z).elim n fun e => (ne_of_none s hp) e) s (RelMk.away' hp h1 ds _ r)
theorem RelDs.away' {p : Addr} (hp : H p = none) (h1 : ∀ a, S' a → S a ∨ a = p) : ∀ (d : List D) (v : List V), RelDs K S H v d → RelDs K S' H v d
  | [], _, h => by cases h; exact .nil
  | d :: ds, _, h => by
    cases h with
    | cons r t => exact .cons (RelD.away' hp h1 d _ r) (RelDs.away' hp h1 ds _ t)
theorem RelKs.away' {p : Addr} (hp : H p = none) (h1 : ∀ a, S' a → S a ∨ a = p) : ∀ (d : List (D × D)) (v : List (Key × V)), RelKs K S H v d → RelKs K S' H v d
  | [], _, h => by cases h; exact .nil
  | (k, d) :: ds, _, h => by
    cases h with
    | cons r t => exact .cons (RelD.away' hp h1 d _ r) (RelKs.away' hp h1 ds _ t)
theorem RelMk.away' {p : Addr} (hp : H p = none) (h1 : ∀ a, S' a → S a ∨ a = p) : ∀ (d : List (D × D)) (v : List (List Int × Addr × Value)), RelMk K S H v d → RelMk K S' H v d
  | [], _, h => by cases h
  | (k, d) :: ds, _, h => by
    cases h with
    | mk r => exact .mk (RelTs.away' hp h1 ds _ r)
theorem RelTs.away' {p : Addr} (hp : H p = none) (h1 : ∀ a, S' a → S a ∨ a = p) : ∀ (d : List (D × D)) (v : List (List Int × Addr × Value)), RelTs K S H v d → RelTs K S' H v d
  | [], _, h => by cases h; exact .nil
  | (k, d) :: ds, _, h => by
    cases h with
    | cons s q r t => exact .cons (s.imp (fun ⟨n, s⟩ => ⟨fun z => (h1 _ z).elim n fun e => Rd.some s.rd (e ▸ hp), s⟩) id) q (RelD.away' hp h1 d _ r) (RelTs.away' hp h1 ds _ t)
end
theorem RelMk.mono {v : List (List Int × Addr × Value)} {d : List (D × D)} (r : RelMk K S H v d) (g : Gro C H H') (h1 : ∀ a, S' a → S a) (h2 : ∀ a, C a → S a) : RelMk K S' H' v d := RelMk.mono' g h1 h2 _ _ r
theorem RelMk.away {p : Addr} {v : List (List Int × Addr × Value)} {d : List (D × D)} (r : RelMk K S H v d) (hp : H p = none) (h1 : ∀ a, S' a → S a ∨ a = p) : RelMk K S' H v d := RelMk.away' hp h1 _ _ r
theorem RelMk.isT {v : List (List Int × Addr × Value)} {d : List (D × D)} (r : RelMk K S H v d) : PD.isT d = true := by
  cases r; rfl
theorem RelD.away {p : Addr} {v : V} {d : D} (r : RelD K S H v d) (hp : H p = none) (h1 : ∀ a, S' a → S a ∨ a = p) : RelD K S' H v d := RelD.away' hp h1 _ _ r
theorem RelDs.away {p : Addr} {v : List V} {d : List D} (r : RelDs K S H v d) (hp : H p = none) (h1 : ∀ a, S' a → S a ∨ a = p) : RelDs K S' H v d := RelDs.away' hp h1 _ _ r
theorem RelKs.away {p : Addr} {v : List (Key × V)} {d : List (D × D)} (r : RelKs K S H v d) (hp : H p = none) (h1 : ∀ a, S' a → S a ∨ a = p) : RelKs K S' H v d := RelKs.away' hp h1 _ _ r
theorem RelD.ext (g : Ext H H') {v : V} {d : D} (r : RelD K S H v d) : RelD K S H' v d := r.mono (C := fun _ => False) g.gro (fun _ z => z) fun _ z => z.elim
theorem RelDs.ext (g : Ext H H') {v : List V} {d : List D} (r : RelDs K S H v d) : RelDs K S H' v d := r.mono (C := fun _ => False) g.gro (fun _ z => z) fun _ z => z.elim
theorem RelKs.ext (g : Ext H H') {v : List (Key × V)} {d : List (D × D)} (r : RelKs K S H v d) : RelKs K S H' v d := r.mono (C := fun _ => False) g.gro (fun _ z => z) fun _ z => z.elim
theorem RelDs.length : ∀ {vs : List V} {ds : List D}, RelDs K S H vs ds → vs.length = ds.length
  | _, _, .nil => rfl
  | _, _, .cons _ t => congrArg (· + 1) t.length
theorem RelDs.get : ∀ {vs : List V} {ds : List D} {i : Nat} {d : D}, RelDs K S H vs ds → ds[i]? = some d → ∃ v, vs[i]? = some v ∧ RelD K S H v d
  | _, _, _, _, .nil, e => by simp at e
  | _, _, 0, _, .cons r _, e => by simp at e; subst e; exact ⟨_, rfl, r⟩
  | _, _, i + 1, d, .cons _ t, e => by
    obtain ⟨v, h1, h2⟩ := RelDs.get (i := i) (d := d) t (by simpa using e)
    exact ⟨v, by simpa using h1, h2⟩
theorem RelDs.getV : ∀ {vs : List V} {ds : List D} {i : Nat} {v : V}, RelDs K S H vs ds → vs[i]? = some v → ∃ d, ds[i]? = some d ∧ RelD K S H v d
  | _, _, _, _, .nil, e => by simp at e
  | _, _, 0, _, .cons r _, e => by simp at e; subst e; exact ⟨_, rfl, r⟩
  | _, _, i + 1, d, .cons _ t, e => by
    obtain ⟨v, h1, h2⟩ := RelDs.getV (i := i) (v := d) t (by simpa using e)
    exact ⟨v, by simpa using h1, h2⟩
theorem RelDs.append : ∀ {xs ys : List V} {ds es : List D}, RelDs K S H xs ds → RelDs K S H ys es → RelDs K S H (xs ++ ys) (ds ++ es)
  | _, _, _, _, .nil, s => s
  | _, _, _, _, .cons r t, s => .cons r (RelDs.append t s)
theorem RelDs.take : ∀ {xs : List V} {ds : List D} (n : Nat), RelDs K S H xs ds → RelDs K S H (xs.take n) (ds.take n)
  | _, _, 0, _ => .nil
  | _, _, _ + 1, .nil => .nil
  | _, _, n + 1, .cons r t => .cons r (RelDs.take n t)
theorem RelDs.drop : ∀ {xs : List V} {ds : List D} (n : Nat), RelDs K S H xs ds → RelDs K S H (xs.drop n) (ds.drop n)
  | _, _, 0, r => r
  | _, _, _ + 1, .nil => .nil
  | _, _, n + 1, .cons _ t => RelDs.drop n t
theorem RelDs.set {v : V} {d : D} (r : RelD K S H v d) : ∀ {xs : List V} {ds : List D} (i : Nat), RelDs K S H xs ds → RelDs K S H (xs.set i v) (ds.set i d)
  | _, _, _, .nil => .nil
  | _, _, 0, .cons _ t => .cons r t
  | _, _, i + 1, .cons q t => .cons q (RelDs.set r i t)
/-- an owned thing stands at a -/
def RelO (K : PySem.W.Frag) (S : Addr → Prop) (H : Hp) (a : Addr) : D → Prop
  | .list ds => ∃ xs, H a = some (.lst xs) ∧ RelDs K S H xs ds
  | .dict ds => (∃ kvs, H a = some (.dK kvs) ∧ RelKs K S H kvs ds) ∨ ∃ xs, H a = some (.ext (TDict a xs)) ∧ RelMk K S H xs ds
  | _ => False
theorem RelO.mono {a : Addr} {d : D} (g : Gro C H H') (h1 : ∀ a, S' a → S a) (h2 : ∀ a, C a → S a) (hn : ¬ C a) (r : RelO K S H a d) : RelO K S' H' a d := by
  cases d with
  | list ds => obtain ⟨xs, e, r⟩ := r; exact ⟨xs, g.keep _ _ e hn (fun ps z => nomatch z), r.mono g h1 h2⟩
  | dict ds =>
    rcases r with ⟨xs, e, r⟩ | ⟨xs, e, r⟩
    · exact .inl ⟨xs, g.keep _ _ e hn (fun ps z => nomatch z), r.mono g h1 h2⟩
    · exact .inr ⟨xs, g.keep _ _ e hn (fun ps z => nomatch z), r.mono g h1 h2⟩
  | _ => exact r.elim
theorem RelO.some {a : Addr} {d : D} (r : RelO K S H a d) : H a ≠ none := by
  cases d with
  | list ds => obtain ⟨xs, e, r⟩ := r; rw [e]; simp
  | dict ds => rcases r with ⟨xs, e, r⟩ | ⟨xs, e, r⟩ <;> (rw [e]; simp)
  | _ => exact r.elim
theorem RelO.away {p a : Addr} {d : D} (r : RelO K S H a d) (hp : H p = none) (h1 : ∀ a, S' a → S a ∨ a = p) : RelO K S' H a d := by
  cases d with
  | list ds => obtain ⟨xs, e, r⟩ := r; exact ⟨xs, e, r.away hp h1⟩
  | dict ds =>
    rcases r with ⟨xs, e, r⟩ | ⟨xs, e, r⟩
    · exact .inl ⟨xs, e, r.away hp h1⟩
    · exact .inr ⟨xs, e, r.away hp h1⟩
  | _ => exact r.elim
theorem RelO.relD {a : Addr} {d : D} (h1 : ∀ a, S' a → S a) (hn : ¬ S' a) (r : RelO K S H a d) : RelD K S' H (.ref a) d := by
  cases d with
  | list ds => obtain ⟨xs, e, r⟩ := r; exact .lst hn (.inl e) (r.mono (C := fun _ => False) (Gro.refl _) h1 fun _ z => z.elim)
  | dict ds =>
    rcases r with ⟨xs, e, r⟩ | ⟨xs, e, r⟩
    · exact .dic hn (.inl e) (r.mono (C := fun _ => False) (Gro.refl _) h1 fun _ z => z.elim)
    · exact .dit hn e (r.mono (C := fun _ => False) (Gro.refl _) h1 fun _ z => z.elim)
  | _ => exact r.elim
/-- a value that can be read -/
def RR (K : PySem.W.Frag) (S : Addr → Prop) (H : Hp) (v : V) (d : D) : Prop := RelD K S H v d ∨ ∃ a, v = .ref a ∧ RelO K S H a d
theorem RR.ext (g : Ext H H') {v : V} {d : D} (r : RR K S H v d) : RR K S H' v d := r.imp (·.ext g) fun ⟨a, e, r⟩ => ⟨a, e, r.mono (C := fun _ => False) g.gro (fun _ z => z) (fun _ z => z.elim) id⟩
theorem RR.list {v : V} {ds : List D} (r : RR K S H v (.list ds)) : ∃ a xs, v = .ref a ∧ SqL K H a xs ∧ RelDs K S H xs ds := by
  rcases r with r | ⟨a, e, xs, h, r⟩
  · cases r with
    | lst n s r => exact ⟨_, _, rfl, .inl s, r⟩
    | lstK s r => exact ⟨_, _, rfl, .inr s, r⟩
  · exact ⟨a, xs, e, SqL.of h, r⟩
theorem RR.tuple {v : V} {ds : List D} (r : RR K S H v (.tuple ds)) : ∃ a xs, v = .ref a ∧ SqT K H a xs ∧ RelDs K S H xs ds := by
  rcases r with r | ⟨a, e, r⟩
  · cases r with
    | tup n s r => exact ⟨_, _, rfl, .inl s.rd, r⟩
    | tupK s r => exact ⟨_, _, rfl, .inr (KT.sq s), r⟩
  · exact r.elim
theorem RR.dict2 {v : V} {ds : List (D × D)} (r : RR K S H v (.dict ds)) : (∃ a kvs, v = .ref a ∧ Rd H a (.dK kvs) ∧ RelKs K S H kvs ds) ∨ ∃ a xs, v = .ref a ∧ H a = some (.ext (TDict a xs)) ∧ RelMk K S H xs ds := by
  rcases r with r | ⟨a, e, r⟩
  · cases r with
    | dic n s r => exact .inl ⟨_, _, rfl, s, r⟩
    | dit n s r => exact .inr ⟨_, _, rfl, s, r⟩
  · rcases r with ⟨xs, h, r⟩ | ⟨xs, h, r⟩
    · exact .inl ⟨a, xs, e, .inl h, r⟩
    · exact .inr ⟨a, xs, e, h, r⟩
theorem RR.dict {v : V} {ds : List (D × D)} (hn : isT ds = false) (r : RR K S H v (.dict ds)) : ∃ a kvs, v = .ref a ∧ Rd H a (.dK kvs) ∧ RelKs K S H kvs ds := by
  rcases r.dict2 with h | ⟨a, xs, _, _, h⟩
  · exact h
  · rw [h.isT] at hn; cases hn
theorem RR.int {v : V} {i : Int} (r : RR K S H v (.int i)) : v = .int i := by
  rcases r with r | ⟨a, e, r⟩
  · cases r; rfl
  · exact r.elim
theorem RR.bool {v : V} {i : Bool} (r : RR K S H v (.bool i)) : v = .bl i := by
  rcases r with r | ⟨a, e, r⟩
  · cases r; rfl
  · exact r.elim
theorem RR.str {v : V} {i : Str} (r : RR K S H v (.str i)) : v = .str i := by
  rcases r with r | ⟨a, e, r⟩
  · cases r; rfl
  · exact r.elim
theorem RR.none {v : V} (r : RR K S H v .none) : v = .non := by
  rcases r with r | ⟨a, e, r⟩
  · cases r; rfl
  · exact r.elim
end

/-! ### the frame, the slots -/
structure Frm where
  K : PySem.W.Frag
  /-- what the callers hold: not ours to touch but for io -/
  S : Addr → Prop
  /-- the parameters that are written -/
  io : List Nat
  T : List Addr
  H0 : Hp
  A0 : Nat → Addr
  /-- values that stay while a loop runs -/
  G : List (V × D) := []
  /-- the def answers with a new list or dict -/
  new : Bool := false
/-- the slots: none, or owned (true), or plain data -/
abbrev Rho := List (Option (Bool × D))
/-- the owned addresses -/
def Ow (A : Nat → Addr) (ρ : Rho) (a : Addr) : Prop := ∃ (i : Nat) (d : D), ρ[i]? = some (some (true, d)) ∧ a = A i
def Av (F : Frm) (B : List Addr) (A : Nat → Addr) (ρ : Rho) (a : Addr) : Prop := F.S a ∨ a ∈ B ∨ Ow A ρ a
structure Ev (F : Frm) (B : List Addr) (A : Nat → Addr) (σ : L2.St) (H : Hp) (ρ : Rho) : Prop where
  len : ρ.length = σ.length
  plain : ∀ (i : Nat) (d : D), ρ[i]? = some (some (false, d)) → ∃ v, σ[i]? = some (some v) ∧ RelD F.K (Av F B A ρ) H v d
  own : ∀ (i : Nat) (d : D), ρ[i]? = some (some (true, d)) → σ[i]? = some (some (.ref (A i))) ∧ RelO F.K (Av F B A ρ) H (A i) d
  inj : ∀ (i j : Nat) (d e : D), ρ[i]? = some (some (true, d)) → ρ[j]? = some (some (true, e)) → A i = A j → i = j
  nS : ∀ (i : Nat) (d : D), ρ[i]? = some (some (true, d)) → i ∉ F.io → ¬ F.S (A i) ∧ A i ∉ B ∧ F.H0 (A i) = none
  ios : ∀ i ∈ F.io, A i = F.A0 i ∧ F.S (A i) ∧ A i ∉ B ∧ ∃ d : D, ρ[i]? = some (some (true, d))
  occ : ∀ a, F.S a → H a ≠ none
  occB : ∀ b ∈ B, H b ≠ none ∧ F.H0 b = none ∧ ¬ F.S b
  chg : Gro (fun a => ∃ i ∈ F.io, a = F.A0 i) F.H0 H
  tabs : ∀ P ∈ F.T, TabG H P
  roots : ∀ r ∈ F.G, RelD F.K (Av F B A ρ) H r.1 r.2
section
variable {F : Frm} {B : List Addr} {A : Nat → Addr} {σ : L2.St} {H H' : Hp} {ρ ρ' : Rho}
theorem Ev.occA (E : Ev F B A σ H ρ) : ∀ a, Av F B A ρ a → H a ≠ none := fun a h => by
  rcases h with h | h | ⟨i, d, e, h⟩
  · exact E.occ a h
  · exact (E.occB a h).1
  · rw [h]; exact (E.own i d e).2.some
theorem Ev.fresh (E : Ev F B A σ H ρ) {p : Addr} (h : H p = none) : ¬ Av F B A ρ p := fun z => E.occA p z h
theorem Ev.ext (E : Ev F B A σ H ρ) (g : Ext H H') : Ev F B A σ H' ρ where
  len := E.len
  plain := fun i d e => let ⟨v, h1, h2⟩ := E.plain i d e; ⟨v, h1, h2.ext g⟩
  own := fun i d e => let ⟨h1, h2⟩ := E.own i d e; ⟨h1, h2.mono (C := fun _ => False) g.gro (fun _ z => z) (fun _ z => z.elim) id⟩
  inj := E.inj
  nS := E.nS
  ios := E.ios
  occ := fun a h => by
    cases q : H a with
    | none => exact absurd q (E.occ a h)
    | some o => rw [g a o q]; simp
  occB := fun b hb => ⟨by
    cases q : H b with
    | none => exact absurd q (E.occB b hb).1
    | some o => rw [g b o q]; simp, (E.occB b hb).2⟩
  chg := E.chg.trans g.gro
  tabs := fun P hP => (g.gro (C := fun _ => False)).tabs P (E.tabs P hP)
  roots := fun r hr => (E.roots r hr).ext g
/-- a new thing at p that nobody has yet -/
theorem Ev.hide {p : Addr} (E : Ev F B A σ H ρ) (hp : H p = none) : ∀ {H' : Hp}, Ext H H' → H' p ≠ none → Ev F (p :: B) A σ H' ρ := by
  intro H' g hn
  have h0 : F.H0 p = none := by
    cases q : F.H0 p with
    | none => rfl
    | some o => exact absurd hp (E.chg.live p (by rw [q]; simp))
  have hS : ∀ a, Av F (p :: B) A ρ a → Av F B A ρ a ∨ a = p := fun a h => by
    rcases h with h | h | h
    · exact .inl (.inl h)
    · rcases List.mem_cons.mp h with h | h
      · exact .inr h
      · exact .inl (.inr (.inl h))
    · exact .inl (.inr (.inr h))
  have E' := E.ext g
  exact ⟨E.len, fun i d e => let ⟨v, h1, h2⟩ := E.plain i d e; ⟨v, h1, (h2.away hp hS).ext g⟩, fun i d e => let ⟨h1, h2⟩ := E.own i d e; ⟨h1, (h2.away hp hS).mono (C := fun _ => False) g.gro (fun _ z => z) (fun _ z => z.elim) id⟩, E.inj,
    fun i d e hi => let ⟨h1, h2, h3⟩ := E.nS i d e hi; ⟨h1, fun z => by
      rcases List.mem_cons.mp z with z | z
      · exact (E.own i d e).2.some (z ▸ hp)
      · exact h2 z, h3⟩, fun i hi => let ⟨h1, h2, h3, d, h4⟩ := E.ios i hi; ⟨h1, h2, fun z => by
      rcases List.mem_cons.mp z with z | z
      · exact (E.own i d h4).2.some (z ▸ hp)
      · exact h3 z, d, h4⟩, E'.occ, fun b hb => by
      rcases List.mem_cons.mp hb with hb | hb
      · rw [hb]
        exact ⟨hn, h0, fun z => E.occ p z hp⟩
      · exact E'.occB b hb, E'.chg, E'.tabs, fun r hr => ((E.roots r hr).away hp hS).ext g⟩
/-- it is let go -/
theorem Ev.unhide {p : Addr} (E : Ev F (p :: B) A σ H ρ) : Ev F B A σ H ρ := by
  have hS : ∀ a, Av F B A ρ a → Av F (p :: B) A ρ a := fun a h => by
    rcases h with h | h | h
    · exact .inl h
    · exact .inr (.inl (List.mem_cons_of_mem _ h))
    · exact .inr (.inr h)
  exact ⟨E.len, fun i d e => let ⟨v, h1, h2⟩ := E.plain i d e; ⟨v, h1, h2.mono (C := fun _ => False) (Gro.refl _) hS fun _ z => z.elim⟩, fun i d e => let ⟨h1, h2⟩ := E.own i d e; ⟨h1, h2.mono (C := fun _ => False) (Gro.refl _) hS (fun _ z => z.elim) id⟩, E.inj,
    fun i d e hi => let ⟨h1, h2, h3⟩ := E.nS i d e hi; ⟨h1, fun z => h2 (List.mem_cons_of_mem _ z), h3⟩, fun i hi => let ⟨h1, h2, h3, h4⟩ := E.ios i hi; ⟨h1, h2, fun z => h3 (List.mem_cons_of_mem _ z), h4⟩, E.occ, fun b hb => E.occB b (List.mem_cons_of_mem _ hb), E.chg, E.tabs, fun r hr => (E.roots r hr).mono (C := fun _ => False) (Gro.refl _) hS fun _ z => z.elim⟩
/-- nothing that is owned changes -/
theorem Ev.quiet (E : Ev F B A σ H ρ) (g : Gro (fun _ => False) H H') : Ev F B A σ H' ρ where
  len := E.len
  plain := fun i d e => let ⟨v, h1, h2⟩ := E.plain i d e; ⟨v, h1, h2.mono g (fun _ z => z) (fun _ z => z.elim)⟩
  own := fun i d e => let ⟨h1, h2⟩ := E.own i d e; ⟨h1, h2.mono g (fun _ z => z) (fun _ z => z.elim) id⟩
  inj := E.inj
  nS := E.nS
  ios := E.ios
  occ := fun a h => g.live a (E.occ a h)
  occB := fun b hb => ⟨g.live b (E.occB b hb).1, (E.occB b hb).2⟩
  chg := E.chg.trans (g.mono fun _ z => z.elim)
  tabs := fun P hP => g.tabs P (E.tabs P hP)
  roots := fun r hr => (E.roots r hr).mono g (fun _ z => z) (fun _ z => z.elim)

/-- what an expression may do to the slots -/
structure Lv (eff : List Nat) (ρ ρ' : Rho) : Prop where
  keep : ∀ i : Nat, i ∉ eff → ρ'[i]? = ρ[i]?
  own : ∀ (i : Nat) (d : D), ρ'[i]? = some (some (true, d)) → ∃ e : D, ρ[i]? = some (some (true, e))
theorem Lv.refl (ρ : Rho) : Lv [] ρ ρ := ⟨fun _ _ => rfl, fun i d e => ⟨d, e⟩⟩
theorem Lv.trans {e1 e2 : List Nat} {ρ1 ρ2 : Rho} (a : Lv e1 ρ ρ1) (b : Lv e2 ρ1 ρ2) : Lv (e1 ++ e2) ρ ρ2 :=
  ⟨fun i h => (b.keep i fun z => h (List.mem_append_right _ z)).trans (a.keep i fun z => h (List.mem_append_left _ z)), fun i d e => let ⟨d1, e1⟩ := b.own i d e; a.own i d1 e1⟩
theorem Lv.ow {eff : List Nat} (h : Lv eff ρ ρ') {a : Addr} (z : Ow A ρ' a) : Ow A ρ a := by
  obtain ⟨i, d, e, rfl⟩ := z
  obtain ⟨d', e'⟩ := h.own i d e
  exact ⟨i, d', e', rfl⟩
theorem Lv.av {eff : List Nat} (h : Lv eff ρ ρ') {a : Addr} (z : Av F B A ρ' a) : Av F B A ρ a := by
  rcases z with z | z | z
  · exact .inl z
  · exact .inr (.inl z)
  · exact .inr (.inr (h.ow z))
/-- the value of an expression: plain data, or an owned thing of dep -/
def Val (F : Frm) (B : List Addr) (A : Nat → Addr) (ρ : Rho) (H : Hp) (dep : List Nat) (v : V) (d : D) : Prop :=
  RelD F.K (Av F B A ρ) H v d ∨ ∃ i ∈ dep, ρ[i]? = some (some (true, d)) ∧ v = .ref (A i)
theorem Val.rr {dep : List Nat} {v : V} {d : D} (E : Ev F B A σ H ρ) (h : Val F B A ρ H dep v d) : RR F.K (Av F B A ρ) H v d := by
  rcases h with h | ⟨i, _, e, rfl⟩
  · exact .inl h
  · exact .inr ⟨_, rfl, (E.own i d e).2⟩
theorem Val.later {dep eff : List Nat} {v : V} {d : D} (h : Val F B A ρ H dep v d) (g : Gro (Ow A ρ) H H') (l : Lv eff ρ ρ') (hd : ∀ i ∈ dep, i ∉ eff) : Val F B A ρ' H' dep v d := by
  rcases h with h | ⟨i, hi, e, rfl⟩
  · exact .inl (h.mono g (fun a z => l.av z) fun a z => .inr (.inr z))
  · exact .inr ⟨i, hi, by rw [l.keep i (hd i hi)]; exact e, rfl⟩
theorem Val.plain {v : V} {d : D} (h : Val F B A ρ H [] v d) : RelD F.K (Av F B A ρ) H v d := by
  rcases h with h | ⟨i, hi, _⟩
  · exact h
  · exact absurd hi (by simp)
/-- behind an expression -/
structure Post (F : Frm) (B : List Addr) (A : Nat → Addr) (σ : L2.St) (H : Hp) (ρ : Rho) (eff : List Nat) (H' : Hp) (ρ' : Rho) : Prop where
  env : Ev F B A σ H' ρ'
  gro : Gro (Ow A ρ) H H'
  lv : Lv eff ρ ρ'
theorem Post.refl (E : Ev F B A σ H ρ) : Post F B A σ H ρ [] H ρ := ⟨E, Gro.refl _, Lv.refl _⟩
theorem Post.trans {e1 e2 : List Nat} {H1 H2 : Hp} {ρ1 ρ2 : Rho} (a : Post F B A σ H ρ e1 H1 ρ1) (b : Post F B A σ H1 ρ1 e2 H2 ρ2) : Post F B A σ H ρ (e1 ++ e2) H2 ρ2 :=
  ⟨b.env, a.gro.trans (b.gro.mono fun x z => a.lv.ow z), a.lv.trans b.lv⟩
theorem Post.ext {eff : List Nat} {H1 H2 : Hp} {ρ1 : Rho} (a : Post F B A σ H ρ eff H1 ρ1) (g : Ext H1 H2) : Post F B A σ H ρ eff H2 ρ1 := ⟨a.env.ext g, a.gro.trans g.gro, a.lv⟩
end
abbrev M (α : Type) := Rho → Option (α × Rho)
def rd (F : Frm) (m : M D) (dep eff : List Nat) : TE := fun σ H Q => ∃ B A ρ d ρ', Ev F B A σ H ρ ∧ m ρ = some (d, ρ') ∧ ∀ v H', Post F B A σ H ρ eff H' ρ' → Val F B A ρ' H' dep v d → Q v H'
def rdT (F : Frm) (m : M Bool) (eff : List Nat) : TT := fun σ H Q => ∃ B A ρ b ρ', Ev F B A σ H ρ ∧ m ρ = some (b, ρ') ∧ ∀ H', Post F B A σ H ρ eff H' ρ' → Q b H'
def rdA (F : Frm) (m : M (List D)) (dep eff : List Nat) : TA := fun σ H Q => ∃ B A ρ ds ρ', Ev F B A σ H ρ ∧ m ρ = some (ds, ρ') ∧ ∀ vs H', Post F B A σ H ρ eff H' ρ' → Paired (Val F B A ρ' H' dep) vs ds → Q vs H'
section
variable {X : Cx}
theorem PE.mono {e : Expr} {t t' : TE} (h : PE X e t) (hm : ∀ σ H Q, t' σ H Q → t σ H Q) : PE X e t' := ⟨fun pins s σ H Q I q => h.run pins s σ H Q I (hm σ H Q q)⟩
theorem PT.mono {e : Expr} {t t' : TT} (h : PT X e t) (hm : ∀ σ H Q, t' σ H Q → t σ H Q) : PT X e t' := ⟨fun pins s σ H Q I q => h.run pins s σ H Q I (hm σ H Q q)⟩
theorem PA.mono {es : List Expr} {t t' : TA} (h : PA X es t) (hm : ∀ σ H Q, t' σ H Q → t σ H Q) : PA X es t' := ⟨fun p pins s σ H Q I q => h.run p pins s σ H Q I (hm σ H Q q)⟩
theorem PS.mono {st : Stmt} {t t' : TS} (h : PS X st t) (hm : ∀ Dn σ H, t' Dn σ H → t Dn σ H) : PS X st t' := ⟨fun pins s σ H Dn I q => h.run pins s σ H Dn I (hm Dn σ H q)⟩
end
end PD

set_option Elab.async false
set_option linter.all false
set_option maxRecDepth 100000
set_option maxHeartbeats 2000000
/-! PDb: expressions. -/
namespace PD
open PySem PySem.Spec PyProof.Rows L2 GxR
section
variable {X : Cx} {F : Frm} {pos p : Pos}

/-! ### names, constants -/
def mVar (i : Nat) : M D := fun ρ => match ρ[i]? with
  | some (some (_, d)) => some (d, ρ)
  | _ => none
def mFrz (i : Nat) : M D := fun ρ => match ρ[i]? with
  | some (some (true, d)) => some (d, ρ.set i (some (false, d)))
  | some (some (false, d)) => some (d, ρ)
  | _ => none
def mC (d : D) : M D := fun ρ => some (d, ρ)
theorem mVar_some {i : Nat} {ρ ρ' : Rho} {d : D} (h : mVar i ρ = some (d, ρ')) : ρ' = ρ ∧ ∃ b, ρ[i]? = some (some (b, d)) := by
  unfold mVar at h
  split at h
  · rename_i b d' e
    cases h
    exact ⟨rfl, b, e⟩
  · cases h
/-- a name that is read on the spot -/
theorem x_var {i : Nat} {x : Str} (hN : X.N[i]? = some x) (hv : Vis X.env.scope x) (hd : (x == ("__debug__" : Str)) = false := by decide) (hcd : (x == ("__classdict__" : Str)) = false := by decide) : PE X (.Name x pos) (rd F (mVar i) [i] []) := by
  refine PE.mono (pe_var hN hv hd hcd) fun σ H Q ⟨B, A, ρ, d, ρ', E, hm, k⟩ => ?_
  obtain ⟨rfl, b, e⟩ := mVar_some hm
  cases b with
  | true =>
    obtain ⟨h1, h2⟩ := E.own i d e
    exact ⟨_, h1, k _ H (Post.refl E) (.inr ⟨i, by simp, e, rfl⟩)⟩
  | false =>
    obtain ⟨v, h1, h2⟩ := E.plain i d e
    exact ⟨_, h1, k _ H (Post.refl E) (.inl h2)⟩
theorem get_set {ρ : Rho} {i j : Nat} {z : Option (Bool × D)} : (ρ.set i z)[j]? = if i = j then (if i < ρ.length then some z else none) else ρ[j]? := by
  rw [List.getElem?_set]
/-- a name whose thing is given away: ours no more -/
theorem Ev.frz {B : List Addr} {A : Nat → Addr} {σ : L2.St} {H : Hp} {ρ : Rho} {i : Nat} {d : D} (E : Ev F B A σ H ρ) (hi : i ∉ F.io) (e : ρ[i]? = some (some (true, d))) :
    Post F B A σ H ρ [i] H (ρ.set i (some (false, d))) ∧ RelD F.K (Av F B A (ρ.set i (some (false, d)))) H (.ref (A i)) d := by
  have own' : ∀ (j : Nat) (e' : D), (ρ.set i (some (false, d)))[j]? = some (some (true, e')) → i ≠ j ∧ ρ[j]? = some (some (true, e')) := fun j e' h => by
    by_cases hij : i = j
    · subst hij
      rw [get_set, if_pos rfl] at h
      split at h <;> cases h
    · rw [get_set, if_neg hij] at h
      exact ⟨hij, h⟩
  have L : Lv [i] ρ (ρ.set i (some (false, d))) := ⟨fun j hj => by rw [get_set, if_neg (fun z => hj (by rw [z]; simp))], fun j e' h => ⟨e', (own' j e' h).2⟩⟩
  have hn : ¬ Av F B A (ρ.set i (some (false, d))) (A i) := fun z => by
    obtain ⟨n1, n2, n3⟩ := E.nS i d e hi
    rcases z with z | z | ⟨j, e', h, z⟩
    · exact n1 z
    · exact n2 z
    · obtain ⟨h1, h2⟩ := own' j e' h
      exact h1 (E.inj i j d e' e h2 z)
  have hR := (E.own i d e).2.relD (S' := Av F B A (ρ.set i (some (false, d)))) (fun a z => L.av z) hn
  refine ⟨⟨⟨?_, fun j e' h => ?_, fun j e' h => ?_, fun j k e1 e2 h1 h2 z => E.inj j k e1 e2 (own' j e1 h1).2 (own' k e2 h2).2 z, fun j e' h hj => E.nS j e' (own' j e' h).2 hj, fun j hj => ?_, E.occ, E.occB, E.chg, E.tabs, fun r hr => (E.roots r hr).mono (C := fun _ => False) (Gro.refl _) (fun a z => L.av z) fun _ z => z.elim⟩, Gro.refl _, L⟩, hR⟩
  · rw [List.length_set]; exact E.len
  · by_cases hij : i = j
    · subst hij
      rw [get_set, if_pos rfl] at h
      split at h
      · cases h
        exact ⟨_, (E.own i d e).1, hR⟩
      · cases h
    · rw [get_set, if_neg hij] at h
      obtain ⟨v, h1, h2⟩ := E.plain j e' h
      exact ⟨v, h1, h2.mono (C := fun _ => False) (Gro.refl _) (fun a z => L.av z) fun _ z => z.elim⟩
  · obtain ⟨h1, h2⟩ := own' j e' h
    obtain ⟨g1, g2⟩ := E.own j e' h2
    exact ⟨g1, g2.mono (C := fun _ => False) (Gro.refl _) (fun a z => L.av z) (fun _ z => z.elim) id⟩
  · obtain ⟨a1, a2, a3, d', a4⟩ := E.ios j hj
    refine ⟨a1, a2, a3, d', ?_⟩
    rw [get_set, if_neg (fun z => hi (by rw [z]; exact hj))]
    exact a4
theorem x_frz {i : Nat} {x : Str} (hN : X.N[i]? = some x) (hv : Vis X.env.scope x) (hi : i ∉ F.io) (hd : (x == ("__debug__" : Str)) = false := by decide) (hcd : (x == ("__classdict__" : Str)) = false := by decide) : PE X (.Name x pos) (rd F (mFrz i) [] [i]) := by
  refine PE.mono (pe_var hN hv hd hcd) fun σ H Q ⟨B, A, ρ, d, ρ', E, hm, k⟩ => ?_
  unfold mFrz at hm
  split at hm
  · rename_i d' e
    cases hm
    obtain ⟨P, r⟩ := E.frz hi e
    exact ⟨_, (E.own i d e).1, k _ H P (.inl r)⟩
  · rename_i d' e
    cases hm
    obtain ⟨v, h1, h2⟩ := E.plain i d e
    exact ⟨v, h1, k _ H ⟨E, Gro.refl _, ⟨fun _ _ => rfl, fun i d e => ⟨d, e⟩⟩⟩ (.inl h2)⟩
  · cases hm
theorem x_c {e : Expr} {v : V} {d : D} (h : PE X e (tC v)) (hr : ∀ S H, RelD F.K S H v d) : PE X e (rd F (mC d) [] []) := by
  refine PE.mono h fun σ H Q ⟨B, A, ρ, d', ρ', E, hm, k⟩ => ?_
  cases hm
  exact k v H (Post.refl E) (.inl (hr _ _))
theorem x_int {i : Int} {j} : PE X (.Constant (.int i) j pos) (rd F (mC (.int i)) [] []) := x_c pe_int fun _ _ => .int i
theorem x_bl {i : Bool} {j} : PE X (.Constant (.bool i) j pos) (rd F (mC (.bool i)) [] []) := x_c pe_bl fun _ _ => .bl i
theorem x_str {i : Str} {j} : PE X (.Constant (.str i) j pos) (rd F (mC (.str i)) [] []) := x_c pe_str fun _ _ => .str i
theorem x_non {j} : PE X (.Constant .none j pos) (rd F (mC .none) [] []) := x_c pe_non fun _ _ => .non

/-! ### two values and a fresh one -/
/-- what f makes of two values, as data -/
def rop (K : PySem.W.Frag) (g : D → D → Option D) : R2 := fun x y H Q => ∃ S d1 d2 d, RR K S H x d1 ∧ RR K S H y d2 ∧ g d1 d2 = some d ∧ (∀ a, S a → H a ≠ none) ∧ ∀ v H', Ext H H' → RelD K S H' v d → Q v H'
def mBin (g : D → D → Option D) (m1 m2 : M D) : M D := fun ρ => match m1 ρ with
  | some (d1, ρ1) => (match m2 ρ1 with
    | some (d2, ρ2) => (match g d1 d2 with
      | some d => some (d, ρ2)
      | none => none)
    | none => none)
  | none => none
theorem mBin_some {g : D → D → Option D} {m1 m2 : M D} {ρ ρ2 : Rho} {d : D} (h : mBin g m1 m2 ρ = some (d, ρ2)) : ∃ d1 ρ1 d2, m1 ρ = some (d1, ρ1) ∧ m2 ρ1 = some (d2, ρ2) ∧ g d1 d2 = some d := by
  unfold mBin at h
  split at h
  · rename_i d1 ρ1 e1
    split at h
    · rename_i d2 ρ2' e2
      split at h
      · rename_i d' e3
        cases h
        exact ⟨d1, ρ1, d2, e1, e2, e3⟩
      · cases h
    · cases h
  · cases h
theorem rd_bin {g : D → D → Option D} {m1 m2 : M D} {dep1 eff1 dep2 eff2 : List Nat} (hd : ∀ i ∈ dep1, i ∉ eff2) {σ : L2.St} {H : Hp} {Q : VK} (h : rd F (mBin g m1 m2) [] (eff1 ++ eff2) σ H Q) : tOp (rop F.K g) (rd F m1 dep1 eff1) (rd F m2 dep2 eff2) σ H Q := by
  obtain ⟨B, A, ρ, d, ρ2, E, hm, k⟩ := h
  obtain ⟨d1, ρ1, d2, e1, e2, e3⟩ := mBin_some hm
  refine ⟨B, A, ρ, d1, ρ1, E, e1, fun v1 H1 P1 r1 => ⟨B, A, ρ1, d2, ρ2, P1.env, e2, fun v2 H2 P2 r2 => ?_⟩⟩
  refine ⟨Av F B A ρ2, d1, d2, d, (r1.later P2.gro P2.lv hd).rr P2.env, r2.rr P2.env, e3, P2.env.occA, fun v H' g r => ?_⟩
  exact k v H' ((P1.trans P2).ext g) (.inl r)
theorem x_bin {op : Operator} {a b : Expr} {g : D → D → Option D} {m1 m2 : M D} {dep1 eff1 dep2 eff2 : List Nat} (ho : OpR X (binaryOp op) (rop F.K g)) (ha : PE X a (rd F m1 dep1 eff1)) (hb : PE X b (rd F m2 dep2 eff2)) (hd : ∀ i ∈ dep1, i ∉ eff2 := by decide) :
    PE X (.BinOp a op b pos) (rd F (mBin g m1 m2) [] (eff1 ++ eff2)) := PE.mono (pe_op ho ha hb) fun σ H Q h => rd_bin hd h
theorem x_cmp {op : CmpOp} {a b : Expr} {g : D → D → Option D} {m1 m2 : M D} {dep1 eff1 dep2 eff2 : List Nat} (ho : OpR X (compareOp op) (rop F.K g)) (ha : PE X a (rd F m1 dep1 eff1)) (hb : PE X b (rd F m2 dep2 eff2)) (hd : ∀ i ∈ dep1, i ∉ eff2 := by decide)
    (hm : behindInMarks op b = false := by first | exact nobehind _ (by decide) (by decide) | rfl) :
    PE X (.Compare a [op] [b] pos) (rd F (mBin g m1 m2) [] (eff1 ++ eff2)) := PE.mono (pe_cmpR ho ha hb hm) fun σ H Q h => rd_bin hd h
/-- a subscript hands out what stands there -/
theorem x_ix {a b : Expr} {g : D → D → Option D} {m1 m2 : M D} {dep1 eff1 dep2 eff2 : List Nat} (ho : IxR X (rop F.K g)) (ha : PE X a (rd F m1 dep1 eff1)) (hb : PE X b (rd F m2 dep2 eff2)) (hs : PlainIx b) (hd : ∀ i ∈ dep1, i ∉ eff2 := by decide) :
    PE X (.Subscript a b pos) (rd F (mBin g m1 m2) [] (eff1 ++ eff2)) := PE.mono (pe_ix ho ha hb hs) fun σ H Q h => rd_bin hd h

/-! ### argument lists -/
def mNil : M (List D) := fun ρ => some ([], ρ)
def mCons (m : M D) (ms : M (List D)) : M (List D) := fun ρ => match m ρ with
  | some (d, ρ1) => (match ms ρ1 with
    | some (ds, ρ2) => some (d :: ds, ρ2)
    | none => none)
  | none => none
theorem mCons_some {m : M D} {ms : M (List D)} {ρ ρ2 : Rho} {ds : List D} (h : mCons m ms ρ = some (ds, ρ2)) : ∃ d ρ1 ds', m ρ = some (d, ρ1) ∧ ms ρ1 = some (ds', ρ2) ∧ ds = d :: ds' := by
  unfold mCons at h
  split at h
  · rename_i d ρ1 e1
    split at h
    · rename_i ds' ρ2' e2
      cases h
      exact ⟨d, ρ1, ds', e1, e2, rfl⟩
    · cases h
  · cases h
theorem xa_nil : PA X [] (rdA F mNil [] []) := by
  refine PA.mono pa_nil fun σ H Q ⟨B, A, ρ, ds, ρ', E, hm, k⟩ => ?_
  cases hm
  exact k [] H (Post.refl E) .nil
theorem xa_cons {e : Expr} {es : List Expr} {m : M D} {ms : M (List D)} {dep1 eff1 dep2 eff2 : List Nat} (ha : PE X e (rd F m dep1 eff1)) (hr : PA X es (rdA F ms dep2 eff2)) (hd : ∀ i ∈ dep1, i ∉ eff2 := by decide)
    (hs : starEach (e :: es) X.env = (false, eval e X.env) :: starEach es X.env := by rfl) : PA X (e :: es) (rdA F (mCons m ms) (dep1 ++ dep2) (eff1 ++ eff2)) := by
  refine PA.mono (pa_cons ha hr hs) fun σ H Q ⟨B, A, ρ, ds, ρ2, E, hm, k⟩ => ?_
  obtain ⟨d, ρ1, ds', e1, e2, rfl⟩ := mCons_some hm
  refine ⟨B, A, ρ, d, ρ1, E, e1, fun v1 H1 P1 r1 => ⟨B, A, ρ1, ds', ρ2, P1.env, e2, fun vs H2 P2 r2 => ?_⟩⟩
  refine k _ H2 (P1.trans P2) (.cons ?_ ?_)
  · exact (r1.later P2.gro P2.lv hd).imp id fun ⟨i, hi, r⟩ => ⟨i, List.mem_append_left _ hi, r⟩
  · exact Paired.mapP r2 fun a b r => r.imp id fun ⟨i, hi, r⟩ => ⟨i, List.mem_append_right _ hi, r⟩
/-- values that can be read -/
theorem Val.rrs {B : List Addr} {A : Nat → Addr} {σ : L2.St} {H : Hp} {ρ : Rho} {dep : List Nat} {vs : List V} {ds : List D} (E : Ev F B A σ H ρ) (h : Paired (Val F B A ρ H dep) vs ds) : Paired (RR F.K (Av F B A ρ) H) vs ds := Paired.mapP h fun _ _ r => r.rr E
theorem Val.plains {B : List Addr} {A : Nat → Addr} {H : Hp} {ρ : Rho} : ∀ {vs : List V} {ds : List D}, Paired (Val F B A ρ H []) vs ds → RelDs F.K (Av F B A ρ) H vs ds
  | _, _, .nil => .nil
  | _, _, .cons r t => .cons r.plain (Val.plains t)
def rcall (K : PySem.W.Frag) (g : List D → Option D) : List V → Hp → VK → Prop := fun xs H Q => ∃ S ds d, Paired (RR K S H) xs ds ∧ g ds = some d ∧ (∀ a, S a → H a ≠ none) ∧ ∀ v H', Ext H H' → RelD K S H' v d → Q v H'
def mApp (g : List D → Option D) (m : M (List D)) : M D := fun ρ => match m ρ with
  | some (ds, ρ1) => (match g ds with
    | some d => some (d, ρ1)
    | none => none)
  | none => none
theorem mApp_some {g : List D → Option D} {m : M (List D)} {ρ ρ1 : Rho} {d : D} (h : mApp g m ρ = some (d, ρ1)) : ∃ ds, m ρ = some (ds, ρ1) ∧ g ds = some d := by
  unfold mApp at h
  split at h
  · rename_i ds ρ1' e1
    split at h
    · rename_i d' e2
      cases h
      exact ⟨ds, e1, e2⟩
    · cases h
  · cases h
theorem rd_app {g : List D → Option D} {m : M (List D)} {dep eff : List Nat} {σ : L2.St} {H : Hp} {Q : VK} (h : rd F (mApp g m) [] eff σ H Q) : rdA F m dep eff σ H fun vs H1 => rcall F.K g vs H1 Q := by
  obtain ⟨B, A, ρ, d, ρ1, E, hm, k⟩ := h
  obtain ⟨ds, e1, e2⟩ := mApp_some hm
  exact ⟨B, A, ρ, ds, ρ1, E, e1, fun vs H1 P1 r1 => ⟨Av F B A ρ1, ds, d, Val.rrs P1.env r1, e2, P1.env.occA, fun v H' g r => k v H' (P1.ext g) (.inl r)⟩⟩
/-- f(e, ..), f a built-in function; T(e, ..) a built-in type -/
theorem x_callB {x : Str} {id : String} {e : Expr} {es : List Expr} {g : List D → Option D} {m : M (List D)} {dep eff : List Nat} (hc : CallR X (.builtin id) (rcall F.K g)) (hg : Gl X x) (hm : X.mg x = none) (hv : bootBuiltins x = some (.builtin id)) (ha : PA X (e :: es) (rdA F m dep eff)) (hn : x ≠ "__name__" := by decide) (hdb : (x == ("__debug__" : Str)) = false := by decide)
    (he : starEach (e :: es) X.env = (false, eval e X.env) :: starEach es X.env := by rfl) (hpl : (backTo pos (starEach es X.env)).any (·.1) = false := by rfl) : PE X (.Call (.Name x p) (e :: es) [] pos) (rd F (mApp g m) [] eff) :=
  PE.mono (pe_callB hc hg hm hv ha hn hdb he hpl) fun σ H Q h => rd_app h
theorem x_callTy {x : Str} {T : String} {e : Expr} {es : List Expr} {g : List D → Option D} {m : M (List D)} {dep eff : List Nat} (hc : CallR X (.type T) (rcall F.K g)) (hg : Gl X x) (hm : X.mg x = none) (hv : bootBuiltins x = some (.type T)) (ha : PA X (e :: es) (rdA F m dep eff)) (hn : x ≠ "__name__" := by decide) (hdb : (x == ("__debug__" : Str)) = false := by decide)
    (he : starEach (e :: es) X.env = (false, eval e X.env) :: starEach es X.env := by rfl) (hpl : (backTo pos (starEach es X.env)).any (·.1) = false := by rfl) : PE X (.Call (.Name x p) (e :: es) [] pos) (rd F (mApp g m) [] eff) :=
  PE.mono (pe_callTy hc hg hm hv ha hn hdb he hpl) fun σ H Q h => rd_app h

/-! ### displays -/
def gTupD : List D → Option D := fun ds => if ds.length ≤ sizeLine then some (.tuple ds) else none
def gLstD : List D → Option D := fun ds => if ds.length ≤ sizeLine then some (.list ds) else none
theorem RelDs.of_plains {K : PySem.W.Frag} {S : Addr → Prop} {H : Hp} : ∀ {vs : List V} {ds : List D}, Paired (RelD K S H) vs ds → RelDs K S H vs ds
  | _, _, .nil => .nil
  | _, _, .cons r t => .cons r (RelDs.of_plains t)
theorem x_tup {es : List Expr} {kk : Nat} {m : M (List D)} {eff : List Nat} (h : PE X (.Tuple es kk pos) (FrzT.tTupF (rdA F m [] eff))) : PE X (.Tuple es kk pos) (rd F (mApp gTupD m) [] eff) := by
  refine PE.mono h fun σ H Q ⟨B, A, ρ, d, ρ1, E, hm, k⟩ => ?_
  obtain ⟨ds, e1, e2⟩ := mApp_some hm
  unfold gTupD at e2
  split at e2
  · rename_i hl
    cases e2
    refine ⟨B, A, ρ, ds, ρ1, E, e1, fun vs H1 P1 r1 => ?_⟩
    have r := Val.plains r1
    refine ⟨by rw [r.length]; exact hl, fun q o hq hc hd => ?_⟩
    exact k _ _ (P1.ext (Ext.new hq)) (.inl (.tup (P1.env.fresh hq) ⟨o, upd_same, hc, hd⟩ (r.ext (Ext.new hq))))
  · cases e2
theorem x_lst {es : List Expr} {m : M (List D)} {eff : List Nat} (h : PE X (.List es pos) (tLst (rdA F m [] eff))) : PE X (.List es pos) (rd F (mApp gLstD m) [] eff) := by
  refine PE.mono h fun σ H Q ⟨B, A, ρ, d, ρ1, E, hm, k⟩ => ?_
  obtain ⟨ds, e1, e2⟩ := mApp_some hm
  unfold gLstD at e2
  split at e2
  · rename_i hl
    cases e2
    refine ⟨B, A, ρ, ds, ρ1, E, e1, fun vs H1 P1 r1 => ?_⟩
    have r := Val.plains r1
    refine ⟨by rw [r.length]; exact hl, fun q hq => ?_⟩
    exact k _ _ (P1.ext (Ext.new hq)) (.inl (.lst (P1.env.fresh hq) (.inl upd_same) (r.ext (Ext.new hq))))
  · cases e2

/-! ### tests, and, or, not, if-else -/
def mB (m : M D) : M Bool := fun ρ => match m ρ with
  | some (.bool b, ρ1) => some (b, ρ1)
  | _ => none
theorem mB_some {m : M D} {ρ ρ1 : Rho} {b : Bool} (h : mB m ρ = some (b, ρ1)) : m ρ = some (.bool b, ρ1) := by
  unfold mB at h
  split at h
  · rename_i b' ρ1' e
    cases h
    exact e
  · cases h
theorem rd_tB {m : M D} {dep eff : List Nat} {σ : L2.St} {H : Hp} {Q : Bool → Hp → Prop} (h : rdT F (mB m) eff σ H Q) : tB (rd F m dep eff) σ H Q := by
  obtain ⟨B, A, ρ, b, ρ1, E, hm, k⟩ := h
  refine ⟨B, A, ρ, _, ρ1, E, mB_some hm, fun v H1 P1 r1 => ⟨b, (r1.rr P1.env).bool, k H1 P1⟩⟩
theorem t_val {e : Expr} {m : M D} {dep eff : List Nat} (h : PE X e (rd F m dep eff)) (he : ∀ whole, isTrue e X.env whole = (do let v ← whole; standAt e.pos; holding [v] (truthy v)) := by intro _; rfl) : PT X e (rdT F (mB m) eff) := PT.mono (pt_val h he) fun _ _ _ h => rd_tB h
def mAndT (m1 m2 : M Bool) : M Bool := fun ρ => match m1 ρ with
  | some (true, ρ1) => m2 ρ1
  | some (false, ρ1) => some (false, ρ1)
  | none => none
def mOrT (m1 m2 : M Bool) : M Bool := fun ρ => match m1 ρ with
  | some (false, ρ1) => m2 ρ1
  | some (true, ρ1) => some (true, ρ1)
  | none => none
def mNotT (m : M Bool) : M Bool := fun ρ => match m ρ with
  | some (b, ρ1) => some (!b, ρ1)
  | none => none
theorem Post.more {B : List Addr} {A : Nat → Addr} {σ : L2.St} {H H' : Hp} {ρ ρ' : Rho} {e1 e2 : List Nat} (P : Post F B A σ H ρ e1 H' ρ') (h : ∀ i ∈ e1, i ∈ e2) : Post F B A σ H ρ e2 H' ρ' := ⟨P.env, P.gro, fun i hi => P.lv.keep i fun z => hi (h i z), P.lv.own⟩
structure PWd (X : Cx) (e : Expr) (t : TT) : Prop where
  w : PW X e t
theorem t_and1 {a : Expr} {m : M Bool} {eff : List Nat} (ha : PT X a (rdT F m eff)) : PW X (.BoolOp .And [a] pos) (rdT F m eff) := pw_and1 ha
theorem t_or1 {a : Expr} {m : M Bool} {eff : List Nat} (ha : PT X a (rdT F m eff)) : PW X (.BoolOp .Or [a] pos) (rdT F m eff) := pw_or1 ha
theorem PW.mono {e : Expr} {t t' : TT} (h : PW X e t) (hm : ∀ σ H Q, t' σ H Q → t σ H Q) : PW X e t' := ⟨fun w pins s σ H Q I q => h.run w pins s σ H Q I (hm σ H Q q)⟩
theorem t_and {a b : Expr} {rest : List Expr} {m1 m2 : M Bool} {eff1 eff2 : List Nat} (ha : PT X a (rdT F m1 eff1)) (hb : PW X (.BoolOp .And (b :: rest) pos) (rdT F m2 eff2)) : PW X (.BoolOp .And (a :: b :: rest) pos) (rdT F (mAndT m1 m2) (eff1 ++ eff2)) := by
  refine PW.mono (pw_and ha hb) fun σ H Q ⟨B, A, ρ, d, ρ2, E, hm, k⟩ => ?_
  unfold mAndT at hm
  split at hm
  · rename_i ρ1 e1
    refine ⟨B, A, ρ, true, ρ1, E, e1, fun H1 P1 => ?_⟩
    simp only [if_true, Bool.false_eq_true, if_false]
    exact ⟨B, A, ρ1, d, ρ2, P1.env, hm, fun H2 P2 => k H2 (P1.trans P2)⟩
  · rename_i ρ1 e1
    cases hm
    refine ⟨B, A, ρ, false, _, E, e1, fun H1 P1 => ?_⟩
    simp only [if_true, Bool.false_eq_true, if_false]
    exact k H1 (P1.more fun i hi => List.mem_append_left _ hi)
  · cases hm
theorem t_or {a b : Expr} {rest : List Expr} {m1 m2 : M Bool} {eff1 eff2 : List Nat} (ha : PT X a (rdT F m1 eff1)) (hb : PW X (.BoolOp .Or (b :: rest) pos) (rdT F m2 eff2)) : PW X (.BoolOp .Or (a :: b :: rest) pos) (rdT F (mOrT m1 m2) (eff1 ++ eff2)) := by
  refine PW.mono (pw_or ha hb) fun σ H Q ⟨B, A, ρ, d, ρ2, E, hm, k⟩ => ?_
  unfold mOrT at hm
  split at hm
  · rename_i ρ1 e1
    refine ⟨B, A, ρ, false, ρ1, E, e1, fun H1 P1 => ?_⟩
    simp only [if_true, Bool.false_eq_true, if_false]
    exact ⟨B, A, ρ1, d, ρ2, P1.env, hm, fun H2 P2 => k H2 (P1.trans P2)⟩
  · rename_i ρ1 e1
    cases hm
    refine ⟨B, A, ρ, true, _, E, e1, fun H1 P1 => ?_⟩
    simp only [if_true, Bool.false_eq_true, if_false]
    exact k H1 (P1.more fun i hi => List.mem_append_left _ hi)
  · cases hm
theorem t_not {a : Expr} {m : M Bool} {eff : List Nat} (ha : PT X a (rdT F m eff)) : PT X (.UnaryOp .Not a pos) (rdT F (mNotT m) eff) := by
  refine PT.mono (pt_not ha) fun σ H Q ⟨B, A, ρ, d, ρ2, E, hm, k⟩ => ?_
  unfold mNotT at hm
  split at hm
  · rename_i b ρ1 e1
    cases hm
    exact ⟨B, A, ρ, b, _, E, e1, fun H1 P1 => k H1 P1⟩
  · cases hm
/-- as values -/
def mAndV (m1 m2 : M D) : M D := fun ρ => match m1 ρ with
  | some (.bool true, ρ1) => m2 ρ1
  | some (.bool false, ρ1) => some (.bool false, ρ1)
  | _ => none
def mOrV (m1 m2 : M D) : M D := fun ρ => match m1 ρ with
  | some (.bool false, ρ1) => m2 ρ1
  | some (.bool true, ρ1) => some (.bool true, ρ1)
  | _ => none
def mNotV (m : M D) : M D := fun ρ => match m ρ with
  | some (.bool b, ρ1) => some (.bool (!b), ρ1)
  | _ => none
theorem x_one {op} {a : Expr} {m : M D} {dep eff : List Nat} (h : PE X a (rd F m dep eff)) : PE X (.BoolOp op [a] pos) (rd F m dep eff) := pe_one h
theorem x_and {a b : Expr} {rest : List Expr} {m1 m2 : M D} {dep1 dep2 eff1 eff2 : List Nat} (ha : PE X a (rd F m1 dep1 eff1)) (hb : PE X (.BoolOp .And (b :: rest) pos) (rd F m2 dep2 eff2)) : PE X (.BoolOp .And (a :: b :: rest) pos) (rd F (mAndV m1 m2) dep2 (eff1 ++ eff2)) := by
  refine PE.mono (pe_and ha hb) fun σ H Q ⟨B, A, ρ, d, ρ2, E, hm, k⟩ => ?_
  unfold mAndV at hm
  split at hm
  · rename_i ρ1 e1
    refine ⟨B, A, ρ, .bool true, ρ1, E, e1, fun v H1 P1 r1 => ⟨true, (r1.rr P1.env).bool, ?_⟩⟩
    simp only [if_true, Bool.false_eq_true, if_false]
    exact ⟨B, A, ρ1, d, ρ2, P1.env, hm, fun v H2 P2 r2 => k v H2 (P1.trans P2) r2⟩
  · rename_i ρ1 e1
    cases hm
    refine ⟨B, A, ρ, .bool false, _, E, e1, fun v H1 P1 r1 => ⟨false, (r1.rr P1.env).bool, ?_⟩⟩
    simp only [if_true, Bool.false_eq_true, if_false]
    exact k _ H1 (P1.more fun i hi => List.mem_append_left _ hi) (.inl (.bl false))
  · cases hm
theorem x_or {a b : Expr} {rest : List Expr} {m1 m2 : M D} {dep1 dep2 eff1 eff2 : List Nat} (ha : PE X a (rd F m1 dep1 eff1)) (hb : PE X (.BoolOp .Or (b :: rest) pos) (rd F m2 dep2 eff2)) : PE X (.BoolOp .Or (a :: b :: rest) pos) (rd F (mOrV m1 m2) dep2 (eff1 ++ eff2)) := by
  refine PE.mono (pe_or ha hb) fun σ H Q ⟨B, A, ρ, d, ρ2, E, hm, k⟩ => ?_
  unfold mOrV at hm
  split at hm
  · rename_i ρ1 e1
    refine ⟨B, A, ρ, .bool false, ρ1, E, e1, fun v H1 P1 r1 => ⟨false, (r1.rr P1.env).bool, ?_⟩⟩
    simp only [if_true, Bool.false_eq_true, if_false]
    exact ⟨B, A, ρ1, d, ρ2, P1.env, hm, fun v H2 P2 r2 => k v H2 (P1.trans P2) r2⟩
  · rename_i ρ1 e1
    cases hm
    refine ⟨B, A, ρ, .bool true, _, E, e1, fun v H1 P1 r1 => ⟨true, (r1.rr P1.env).bool, ?_⟩⟩
    simp only [if_true, Bool.false_eq_true, if_false]
    exact k _ H1 (P1.more fun i hi => List.mem_append_left _ hi) (.inl (.bl true))
  · cases hm
theorem x_not {a : Expr} {m : M D} {dep eff : List Nat} (ha : PE X a (rd F m dep eff)) : PE X (.UnaryOp .Not a pos) (rd F (mNotV m) [] eff) := by
  refine PE.mono (pe_not ha) fun σ H Q ⟨B, A, ρ, d, ρ2, E, hm, k⟩ => ?_
  unfold mNotV at hm
  split at hm
  · rename_i b ρ1 e1
    cases hm
    exact ⟨B, A, ρ, .bool b, _, E, e1, fun v H1 P1 r1 => ⟨b, (r1.rr P1.env).bool, k _ H1 P1 (.inl (.bl _))⟩⟩
  · cases hm
def mIf (c : M Bool) (m1 m2 : M D) : M D := fun ρ => match c ρ with
  | some (true, ρ1) => m1 ρ1
  | some (false, ρ1) => m2 ρ1
  | none => none
theorem x_if {c a b : Expr} {mc : M Bool} {m1 m2 : M D} {dep1 dep2 eff0 eff1 eff2 : List Nat} (hc : PT X c (rdT F mc eff0)) (ha : PE X a (rd F m1 dep1 eff1)) (hb : PE X b (rd F m2 dep2 eff2)) : PE X (.IfExp c a b pos) (rd F (mIf mc m1 m2) (dep1 ++ dep2) (eff0 ++ (eff1 ++ eff2))) := by
  refine PE.mono (pe_ifExp hc ha hb) fun σ H Q ⟨B, A, ρ, d, ρ2, E, hm, k⟩ => ?_
  unfold mIf at hm
  split at hm
  · rename_i ρ1 e1
    refine ⟨B, A, ρ, true, ρ1, E, e1, fun H1 P1 => ?_⟩
    simp only [if_true, Bool.false_eq_true, if_false]
    exact ⟨B, A, ρ1, d, ρ2, P1.env, hm, fun v H2 P2 r2 => k v H2 (P1.trans (P2.more fun i hi => List.mem_append_left _ hi)) (r2.imp id fun ⟨i, hi, r⟩ => ⟨i, List.mem_append_left _ hi, r⟩)⟩
  · rename_i ρ1 e1
    refine ⟨B, A, ρ, false, ρ1, E, e1, fun H1 P1 => ?_⟩
    simp only [if_true, Bool.false_eq_true, if_false]
    exact ⟨B, A, ρ1, d, ρ2, P1.env, hm, fun v H2 P2 r2 => k v H2 (P1.trans (P2.more fun i hi => List.mem_append_right _ hi)) (r2.imp id fun ⟨i, hi, r⟩ => ⟨i, List.mem_append_right _ hi, r⟩)⟩
  · cases hm
end
end PD

set_option Elab.async false
set_option linter.all false
set_option maxRecDepth 100000
set_option maxHeartbeats 2000000
/-! PDc: the operators, subscripts, built-in functions on data. -/
namespace PD
open PySem PySem.Spec PyProof.Rows L2 GxR
/-! ### data that == is asked of -/
mutual
/-- no dict within -/
def noD : D → Bool
  | .dict _ => false
  | .list l => noDs l
  | .tuple l => noDs l
  | _ => true
def noDs : List D → Bool
  | [] => true
  | d :: ds => noD d && noDs ds
end
section
variable {K : PySem.W.Frag} {S : Addr → Prop} {H : Hp}
mutual
theorem RelD.dp : ∀ (d : D) (v : V), RelD K S H v d → noD d = true → Dp K H v d
  | .none, _, h, _ => by cases h; exact .non
  | .bool b, _, h, _ => by cases h; exact .bl b
  | .int b, _, h, _ => by cases h; exact .int b
  | .str b, _, h, _ => by cases h; exact .str b
  | .list ds, _, h, n => by
    cases h with
    | lst _ s r => exact .lst (.inl s) (RelDs.dp ds _ r n)
    | lstK s r => exact .lst (.inr s) (RelDs.dp ds _ r n)
  | .tuple ds, _, h, n => by
    cases h with
    | tup _ s r => exact .tup (.inl s.rd) (RelDs.dp ds _ r n)
    | tupK s r => exact .tup (.inr s.sq) (RelDs.dp ds _ r n)
  | .dict ds, _, h, n => by cases n
theorem RelDs.dp : ∀ (d : List D) (v : List V), RelDs K S H v d → noDs d = true → DpAll K H v d
  | [], _, h, _ => by cases h; exact .nil
  | d :: ds, _, h, n => by
    cases h with
    | cons r t =>
      have n : (noD d && noDs ds) = true := n
      rw [Bool.and_eq_true] at n
      exact .cons (RelD.dp d _ r n.1) (RelDs.dp ds _ t n.2)
end
theorem RR.dp {v : V} {d : D} (r : RR K S H v d) (n : noD d = true) : Dp K H v d := by
  rcases r with r | ⟨a, e, r⟩
  · exact RelD.dp _ _ r n
  · cases d with
    | list ds => obtain ⟨xs, h, r⟩ := r; rw [e]; exact .lst (SqL.of h) (RelDs.dp _ _ r n)
    | dict ds => cases n
    | _ => exact r.elim
end
def okE (d : D) : Bool := noD d && SeqAt.shaped d
def gEq (a b : D) : Option D := if (okE a && okE b) = true then some (.bool (PyData.eqv a b)) else none
def gNe (a b : D) : Option D := if (okE a && okE b) = true then some (.bool (!PyData.eqv a b)) else none
def gAdd : D → D → Option D
  | .int a, .int b => some (.int (a + b))
  | .str a, .str b => if a.length + b.length ≤ sizeLine then some (.str (a ++ b)) else none
  | .list a, .list b => if a.length + b.length ≤ sizeLine then some (.list (a ++ b)) else none
  | .tuple a, .tuple b => if a.length + b.length ≤ sizeLine then some (.tuple (a ++ b)) else none
  | _, _ => none
def gSub : D → D → Option D
  | .int a, .int b => some (.int (a - b))
  | _, _ => none
instance : Decidable (CMul i j) := inferInstanceAs (Decidable (_ ∨ _))
instance : Decidable (CDivN i j) := inferInstanceAs (Decidable (_ ∧ _))
def gMul : D → D → Option D
  | .int a, .int b => if CMul a b then some (.int (a * b)) else none
  | .str a, .int n => if n = 0 then some (.str Str.empty) else if n = 1 then some (.str a) else none
  | _, _ => none
def gDiv : D → D → Option D
  | .int a, .int b => if CDivN a b then some (.int (a.fdiv b)) else none
  | _, _ => none
def gMod : D → D → Option D
  | .int a, .int b => if b ≠ 0 then some (.int (a.fmod b)) else none
  | _, _ => none
def gLt : D → D → Option D
  | .int a, .int b => some (.bool (decide (a < b)))
  | .str a, .str b => some (.bool (decide (a.cps.toList < b.cps.toList)))
  | _, _ => none
def gGt : D → D → Option D
  | .int a, .int b => some (.bool (decide (b < a)))
  | .str a, .str b => some (.bool (decide (b.cps.toList < a.cps.toList)))
  | _, _ => none
/-- t <= u of tuples of ints -/
def leI (ns ms : List Int) : Bool := Ob.lexAt (fun j => decide (ns.getD j 0 = ms.getD j 0)) (fun j => decide (ns.getD j 0 ≤ ms.getD j 0)) (decide (ns.length ≤ ms.length)) 0 (min ns.length ms.length)
def gLe : D → D → Option D
  | .int a, .int b => some (.bool (decide (a ≤ b)))
  | .str a, .str b => some (.bool (!decide (b.cps.toList < a.cps.toList)))
  | .tuple a, .tuple b => match allInts a, allInts b with
    | some ns, some ms => some (.bool (leI ns ms))
    | _, _ => none
  | _, _ => none
where allInts : List D → Option (List Int)
  | [] => some []
  | .int i :: r => (allInts r).map (i :: ·)
  | _ => none
def gGe : D → D → Option D
  | .int a, .int b => some (.bool (decide (b ≤ a)))
  | .str a, .str b => some (.bool (!decide (a.cps.toList < b.cps.toList)))
  | _, _ => none
def isN : D → Bool
  | .none => true
  | _ => false
def gIs : D → D → Option D
  | d, .none => some (.bool (isN d))
  | .bool a, .bool b => some (.bool (decide (a = b)))
  | _, _ => none
def gIsNot : D → D → Option D
  | d, .none => some (.bool (!isN d))
  | .bool a, .bool b => some (.bool (!decide (a = b)))
  | _, _ => none
theorem RR.tupleD {K : PySem.W.Frag} {S : Addr → Prop} {H : Hp} {v : V} {ds : List D} (r : RR K S H v (.tuple ds)) : RelD K S H v (.tuple ds) := by
  rcases r with r | ⟨a, e, r⟩
  · exact r
  · exact r.elim
section
variable {X : Cx} {K : PySem.W.Frag}
/-- list + list, of any two lists that are read -/
theorem op_catL : OpR X (binaryOp .Add) (fun x y H Q => ∃ a b xs ys, x = .ref a ∧ y = .ref b ∧ SqL X.K H a xs ∧ SqL X.K H b ys ∧ xs.length + ys.length ≤ sizeLine ∧ ∀ p, H p = none → Q (.ref p) (upd H p (.lst (xs ++ ys)))) := by
  intro pins s σ H x y v u Q I rx ry ⟨a, b, xs, ys, e1, e2, h1, h2, hz, q⟩
  subst e1 e2
  cases rx
  cases ry
  obtain ⟨its, w1, ⟨⟨cls, dd, data, sl⟩, n, ho, hc, hdn, hd⟩, z1⟩ := I.list h1
  obtain ⟨its2, w2, ⟨⟨cls2, dd2, data2, sl2⟩, n2, ho2, hc2, hdn2, hd2⟩, z2⟩ := I.list h2
  simp only at hc hd hc2 hd2
  subst hc hd hc2 hd2
  have l1 := w1.length
  have l2 := w2.length
  have ea : its.toArray ++ its2.toArray = (its ++ its2).toArray := by simp
  refine concat_meets ⟨_, ho, rfl⟩ ⟨_, ho2, rfl⟩ noFill_list_add seq_list_add PySem.F.slot_list_add PySem.F.entry_list_add (PySem.F.args_list_add_2 _ _) (list_addW a b its.toArray its2.toArray n n2 dd dd2 sl sl2 (by rw [List.size_toArray, List.size_toArray]; omega)) ⟨ho, ho2, ?_⟩
  rw [ea]
  exact ⟨.ref _, _, I.lnew (t' := s.toks) (w1.append w2) (by rw [List.length_append]; omega), rfl, q _ I.fresh⟩
theorem o_add (hK : X.K = K := by rfl) : OpR X (binaryOp .Add) (rop K gAdd) := by
  subst hK
  intro pins s σ H x y v u Q I rx ry ⟨S, d1, d2, d, r1, r2, e, occ, k⟩
  unfold gAdd at e
  split at e
  · cases e
    exact op_add pins s σ H x y v u Q I rx ry ⟨_, _, r1.int, r2.int, k _ H (Ext.refl H) (.int _)⟩
  · split at e
    · rename_i hl
      cases e
      exact op_add_str pins s σ H x y v u Q I rx ry ⟨_, _, r1.str, r2.str, hl, k _ H (Ext.refl H) (.str _)⟩
    · cases e
  · split at e
    · rename_i hl
      cases e
      obtain ⟨a, xs, rfl, h1, q1⟩ := r1.list
      obtain ⟨b, ys, rfl, h2, q2⟩ := r2.list
      refine op_catL pins s σ H _ _ v u Q I rx ry ⟨a, b, xs, ys, rfl, rfl, h1, h2, by rw [q1.length, q2.length]; exact hl, fun p hp => ?_⟩
      exact k _ _ (Ext.new hp) (.lst (fun z => occ _ z hp) (.inl upd_same) ((q1.append q2).ext (Ext.new hp)))
    · cases e
  · split at e
    · rename_i hl
      cases e
      have R1 := r1.tupleD
      have R2 := r2.tupleD
      obtain ⟨a, xs, rfl, h1, q1⟩ := r1.tuple
      obtain ⟨b, ys, rfl, h2, q2⟩ := r2.tuple
      refine FrzT.op_catAF pins s σ H _ _ v u Q I rx ry ⟨a, b, xs, ys, rfl, rfl, h1, h2, by rw [q1.length, q2.length]; exact hl, fun hx => ?_, fun _ hy => ?_, fun _ _ p o hp hc hd => ?_⟩
      · subst hx
        cases q1
        exact k _ H (Ext.refl H) R2
      · subst hy
        cases q2
        rw [List.append_nil] at k
        exact k _ H (Ext.refl H) R1
      · exact k _ _ (Ext.new hp) (.tup (fun z => occ _ z hp) ⟨o, upd_same, hc, hd⟩ ((q1.append q2).ext (Ext.new hp)))
    · cases e
  · cases e
/-- an operator on two ints -/
theorem o_sub : OpR X (binaryOp .Sub) (rop K gSub) := by
  intro pins s σ H x y v u Q I rx ry ⟨S, d1, d2, d, r1, r2, e, occ, k⟩
  unfold gSub at e
  split at e
  · cases e
    exact op_sub pins s σ H x y v u Q I rx ry ⟨_, _, r1.int, r2.int, k _ H (Ext.refl H) (.int _)⟩
  · cases e
theorem o_mul : OpR X (binaryOp .Mult) (rop K gMul) := by
  intro pins s σ H x y v u Q I rx ry ⟨S, d1, d2, d, r1, r2, e, occ, k⟩
  unfold gMul at e
  split at e
  · split at e
    · rename_i hc
      cases e
      exact op_mul pins s σ H x y v u Q I rx ry ⟨_, _, r1.int, r2.int, hc, k _ H (Ext.refl H) (.int _)⟩
    · cases e
  · rename_i a n
    have ex := r1.str
    have ey := r2.int
    subst ex ey
    obtain ⟨t, rfl⟩ := (show ∃ t, v = Value.str a t from rx)
    obtain ⟨t', rfl⟩ := (show ∃ t, u = Value.int n t from ry)
    split at e
    · rename_i hn
      cases e
      subst hn
      exact PySem.P.mul_str_none (by decide) (by decide) ⟨.str Str.empty, H, I.tok _, ⟨_, rfl⟩, k _ H (Ext.refl H) (.str _)⟩
    · split at e
      · rename_i hn
        cases e
        subst hn
        exact PySem.P.mul_str (by decide) (fun _ h => absurd h (by simp)) (fun _ h => absurd h (by simp)) (by
          rw [if_neg (by decide), if_pos (by simp)]
          exact ⟨.str a, H, I, ⟨_, rfl⟩, k _ H (Ext.refl H) (.str _)⟩)
      · cases e
  · cases e
theorem o_div : OpR X (binaryOp .FloorDiv) (rop K gDiv) := by
  intro pins s σ H x y v u Q I rx ry ⟨S, d1, d2, d, r1, r2, e, occ, k⟩
  unfold gDiv at e
  split at e
  · split at e
    · rename_i hc
      cases e
      exact op_fdivN pins s σ H x y v u Q I rx ry ⟨_, _, r1.int, r2.int, hc, k _ H (Ext.refl H) (.int _)⟩
    · cases e
  · cases e
theorem o_mod : OpR X (binaryOp .Mod) (rop K gMod) := by
  intro pins s σ H x y v u Q I rx ry ⟨S, d1, d2, d, r1, r2, e, occ, k⟩
  unfold gMod at e
  split at e
  · split at e
    · rename_i hc
      cases e
      exact op_modN pins s σ H x y v u Q I rx ry ⟨_, _, r1.int, r2.int, hc, k _ H (Ext.refl H) (.int _)⟩
    · cases e
  · cases e
theorem o_lt : OpR X (compareOp .Lt) (rop K gLt) := by
  intro pins s σ H x y v u Q I rx ry ⟨S, d1, d2, d, r1, r2, e, occ, k⟩
  unfold gLt at e
  split at e
  · cases e
    exact op_lt pins s σ H x y v u Q I rx ry ⟨_, _, r1.int, r2.int, k _ H (Ext.refl H) (.bl _)⟩
  · cases e
    exact op_lt_str pins s σ H x y v u Q I rx ry ⟨_, _, r1.str, r2.str, k _ H (Ext.refl H) (.bl _)⟩
  · cases e
theorem o_gt : OpR X (compareOp .Gt) (rop K gGt) := by
  intro pins s σ H x y v u Q I rx ry ⟨S, d1, d2, d, r1, r2, e, occ, k⟩
  unfold gGt at e
  split at e
  · cases e
    exact op_gt pins s σ H x y v u Q I rx ry ⟨_, _, r1.int, r2.int, k _ H (Ext.refl H) (.bl _)⟩
  · cases e
    exact op_gt_str pins s σ H x y v u Q I rx ry ⟨_, _, r1.str, r2.str, k _ H (Ext.refl H) (.bl _)⟩
  · cases e
theorem o_ge : OpR X (compareOp .GtE) (rop K gGe) := by
  intro pins s σ H x y v u Q I rx ry ⟨S, d1, d2, d, r1, r2, e, occ, k⟩
  unfold gGe at e
  split at e
  · cases e
    exact op_ge pins s σ H x y v u Q I rx ry ⟨_, _, r1.int, r2.int, k _ H (Ext.refl H) (.bl _)⟩
  · cases e
    exact op_ge_str pins s σ H x y v u Q I rx ry ⟨_, _, r1.str, r2.str, k _ H (Ext.refl H) (.bl _)⟩
  · cases e
theorem allInts_rel {S : Addr → Prop} {H : Hp} : ∀ {ds : List D} {ns : List Int} {xs : List V}, gLe.allInts ds = some ns → RelDs K S H xs ds → xs = ns.map V.int
  | [], _, _, e, r => by
    cases r
    cases e
    rfl
  | d :: ds, ns, _, e, r => by
    cases r with
    | cons r t =>
      cases d <;> unfold gLe.allInts at e <;> try cases e
      rename_i i
      cases q : gLe.allInts ds with
      | none => rw [q] at e; cases e
      | some ms =>
        rw [q] at e
        cases e
        cases r
        rw [allInts_rel q t]
        rfl
theorem o_le (hu : X.A.units < cLine) (hK : X.K = K := by rfl) : OpR X (compareOp .LtE) (rop K gLe) := by
  subst hK
  intro pins s σ H x y v u Q I rx ry ⟨S, d1, d2, d, r1, r2, e, occ, k⟩
  unfold gLe at e
  split at e
  · cases e
    exact op_le pins s σ H x y v u Q I rx ry ⟨_, _, r1.int, r2.int, k _ H (Ext.refl H) (.bl _)⟩
  · cases e
    exact op_le_str pins s σ H x y v u Q I rx ry ⟨_, _, r1.str, r2.str, k _ H (Ext.refl H) (.bl _)⟩
  · split at e
    · rename_i ns ms e1 e2
      cases e
      obtain ⟨a, xs, rfl, h1, q1⟩ := r1.tuple
      obtain ⟨b, ys, rfl, h2, q2⟩ := r2.tuple
      have z1 := allInts_rel e1 q1
      have z2 := allInts_rel e2 q2
      subst z1 z2
      exact op_leT hu pins s σ H _ _ v u Q I rx ry ⟨a, b, ns, ms, rfl, rfl, h1, h2, k _ H (Ext.refl H) (.bl _)⟩
    · cases e
  · cases e
theorem o_eq (hu : X.A.units + 64 < cLine) (hK : X.K = K := by rfl) : OpR X (compareOp .Eq) (rop K gEq) := by
  subst hK
  intro pins s σ H x y v u Q I rx ry ⟨S, d1, d2, d, r1, r2, e, occ, k⟩
  unfold gEq at e
  split at e
  · rename_i h
    cases e
    unfold okE at h
    simp only [Bool.and_eq_true] at h
    obtain ⟨⟨h1, h2⟩, h3, h4⟩ := h
    exact op_eqD hu pins s σ H x y v u Q I rx ry ⟨d1, d2, r1.dp h1, r2.dp h3, h2, h4, k _ H (Ext.refl H) (.bl _)⟩
  · cases e
theorem o_ne (hu : X.A.units + 64 < cLine) (hK : X.K = K := by rfl) : OpR X (compareOp .NotEq) (rop K gNe) := by
  subst hK
  intro pins s σ H x y v u Q I rx ry ⟨S, d1, d2, d, r1, r2, e, occ, k⟩
  unfold gNe at e
  split at e
  · rename_i h
    cases e
    unfold okE at h
    simp only [Bool.and_eq_true] at h
    obtain ⟨⟨h1, h2⟩, h3, h4⟩ := h
    exact op_neD hu pins s σ H x y v u Q I rx ry ⟨d1, d2, r1.dp h1, r2.dp h3, h2, h4, k _ H (Ext.refl H) (.bl _)⟩
  · cases e
theorem RR.non_iff {S : Addr → Prop} {H : Hp} {v : V} {d : D} (r : RR K S H v d) : decide (v = .non) = isN d := by
  rcases r with r | ⟨a, e, r⟩
  · cases r <;> rfl
  · subst e
    cases d <;> first | rfl | exact r.elim
theorem o_is : OpR X (compareOp .Is) (rop K gIs) := by
  intro pins s σ H x y v u Q I rx ry ⟨S, d1, d2, d, r1, r2, e, occ, k⟩
  unfold gIs at e
  split at e
  · cases e
    refine op_isN pins s σ H x y v u Q I rx ry ⟨r2.none, ?_⟩
    rw [r1.non_iff]
    exact k _ H (Ext.refl H) (.bl _)
  · cases e
    exact op_isBl pins s σ H x y v u Q I rx ry ⟨_, _, r1.bool, r2.bool, k _ H (Ext.refl H) (.bl _)⟩
  · cases e
theorem o_isnot : OpR X (compareOp .IsNot) (rop K gIsNot) := by
  intro pins s σ H x y v u Q I rx ry ⟨S, d1, d2, d, r1, r2, e, occ, k⟩
  unfold gIsNot at e
  split at e
  · cases e
    refine op_notN pins s σ H x y v u Q I rx ry ⟨r2.none, ?_⟩
    rw [r1.non_iff]
    exact k _ H (Ext.refl H) (.bl _)
  · cases e
    exact op_notBl pins s σ H x y v u Q I rx ry ⟨_, _, r1.bool, r2.bool, k _ H (Ext.refl H) (.bl _)⟩
  · cases e
end
end PD

set_option Elab.async false
set_option linter.all false
set_option maxRecDepth 100000
set_option maxHeartbeats 2000000
/-! PDd: in, subscripts, slices, built-in functions, methods that read. -/
namespace PD
open PySem PySem.Spec PyProof.Rows L2 GxR
/-- the key that a data is -/
def keyD : D → Option Key
  | .int i => some (.inl i)
  | .str x => some (.inr x)
  | _ => none
theorem keyD_some {d : D} {k : Key} (h : keyD d = some k) : d = kD k := by
  cases d <;> first | (cases h; rfl) | cases h
theorem keyD_kD (k : Key) : keyD (kD k) = some k := by cases k <;> rfl
/-- the first entry with that key -/
def dget : List (D × D) → Key → Option D
  | [], _ => none
  | (kd, d) :: r, k => if keyD kd = some k then some d else dget r k
section
variable {K : PySem.W.Frag} {S : Addr → Prop} {H : Hp}
theorem RR.key {v : V} {k : Key} (r : RR K S H v (kD k)) : v = kV k := by
  cases k with
  | inl i => exact r.int
  | inr x => exact r.str
end
section
variable {X : Cx} {K : PySem.W.Frag} {S : Addr → Prop} {H : Hp}
theorem RelKs.valV : ∀ {kvs : List (Key × V)} {ds : List (D × D)} (k : Key), RelKs K S H kvs ds → (L2.valV kvs k = none ∧ dget ds k = none) ∨ ∃ v d, L2.valV kvs k = some v ∧ dget ds k = some d ∧ RelD K S H v d
  | _, _, _, .nil => .inl ⟨by first | rfl | simp [L2.valV], rfl⟩
  | _, _, k, .cons (k := k0) (v := v) (kvs := kvs) (d := d) (ds := ds) r t => by
    by_cases e : k0 = k
    · subst e
      exact .inr ⟨v, d, by first | (unfold L2.valV; simp) | simp [L2.valV], by unfold dget; rw [keyD_kD, if_pos rfl], r⟩
    · have e1 : L2.valV ((k0, v) :: kvs) k = L2.valV kvs k := by
        first
          | (unfold L2.valV; simp [List.find?, e])
          | simp [L2.valV, e]
      have e2 : dget ((kD k0, d) :: ds) k = dget ds k := by
        unfold dget
        rw [keyD_kD, if_neg (fun z => e (Option.some.inj z))]
        cases ds <;> rfl
      rw [e1, e2]
      exact RelKs.valV k t
theorem RelTs.dget : ∀ {xs : List (List Int × Addr × Value)} {ds : List (D × D)} (k : Key), RelTs K S H xs ds → PD.dget ds k = none
  | _, _, _, .nil => rfl
  | _, _, k, .cons _ _ _ t => (if_neg (fun z : none = some k => nomatch z)).trans (RelTs.dget k t)
theorem RelMk.dget {xs : List (List Int × Addr × Value)} {ds : List (D × D)} {k : Key} (r : RelMk K S H xs ds) : PD.dget ds k = none := by
  cases r with
  | mk r => exact (if_neg (fun z : none = some k => nomatch z)).trans (RelTs.dget k r)
end

def gInB (a : D) : D → Option Bool
  | .list ds => if (okE a && okE (.list ds)) = true then some (ds.any fun z => PyData.eqv z a) else none
  | .tuple ds => if (okE a && okE (.tuple ds)) = true then some (ds.any fun z => PyData.eqv z a) else none
  | .dict kvs => if isT kvs then none else (keyD a).map fun k => (dget kvs k).isSome
  | .str t => match a with
    | .str x => some (!(Builtin.Str.occurrences t x 0 t.length 1).isEmpty)
    | _ => none
  | _ => none
def gIn (a b : D) : Option D := (gInB a b).map fun c => .bool c
def gNotIn (a b : D) : Option D := (gInB a b).map fun c => .bool (!c)
def gIx : D → D → Option D
  | .list ds, .int i => atI ds i
  | .tuple ds, .int i => atI ds i
  | .str z, .int i => if z.length ≤ sizeLine then (atI z.cps.toList i).map fun c => .str ⟨#[c]⟩ else none
  | .dict kvs, a => (keyD a).bind fun k => dget kvs k
  | _, _ => none
section
variable {X : Cx} {K : PySem.W.Frag} {S : Addr → Prop} {H : Hp}
theorem RelDs.atI {xs : List V} {ds : List D} {i : Int} {d : D} (r : RelDs K S H xs ds) (h : L2.atI ds i = some d) : ∃ v, L2.atI xs i = some v ∧ RelD K S H v d := by
  unfold L2.atI at h ⊢
  rw [← r.length] at h
  cases e : ixN xs.length i with
  | none => rw [e] at h; cases h
  | some j =>
    rw [e] at h
    exact r.get h
theorem ix_dict (hu : X.A.units + 1 < cLine) : IxR X (fun x y H Q => ∃ a v, x = .ref a ∧ DGet H a y (some v) ∧ Q v H) := by
  intro value slice pins s σ H x y v u Q I rx ry ⟨a, v0, e, g, q⟩ hs
  subst e
  cases rx
  have hT := dict_typeIs I g
  unfold subscriptTail
  refine wpAny_bind ?_
  rw [getitemInPython_of_ne hT.not_modules]
  refine wpAny_bind (wpAny_specialOf hT PySem.F.slot_dict_getitem.lookup ?_)
  have fin : wpAny (model X.prog X.w) X.A (subscripted slice false (.ref a) u) (fun r s₃ => wpAny (model X.prog X.w) X.A (letTemporaryGo value (.ref a) r >>= fun _ => pure r) (EP X pins σ Q) X.xe s₃) X.xe s := by
    rw [hs]
    exact wpAny_operating (d_getItem hu I g ry fun w' s3 I3 rw' => wpAny_bind (wpAny_letTemporaryGo (wpAny_pure ⟨v0, H, I3, rw', q⟩)))
  first
    | exact wpAny_pure (wpAny_bind fin)
    | exact wpAny_bind (wpAny_pure (wpAny_bind fin))
    | exact wpAny_bind fin
theorem op_dict_in (hu : X.A.units + 1 < cLine) : OpR X (compareOp .In) (fun x y H Q => ∃ a o, y = .ref a ∧ DGet H a x o ∧ Q (.bl o.isSome) H) := by
  intro pins s σ H x y v u Q I rx ry ⟨a, o, e, g, q⟩
  subst e
  cases ry
  exact d_in hu I g rx fun s3 I3 => ⟨.bl o.isSome, H, I3, rfl, q⟩
theorem op_dict_notIn (hu : X.A.units + 1 < cLine) : OpR X (compareOp .NotIn) (fun x y H Q => ∃ a o, y = .ref a ∧ DGet H a x o ∧ Q (.bl (!o.isSome)) H) := by
  intro pins s σ H x y v u Q I rx ry ⟨a, o, e, g, q⟩
  subst e
  cases ry
  exact d_notIn hu I g rx fun s3 I3 => ⟨.bl (!o.isSome), H, I3, rfl, q⟩
theorem op_in_tupD (hu : X.A.units + 65 < cLine) : OpR X (compareOp .In) (fun x y H Q => ∃ d ds, Dp X.K H x d ∧ Dp X.K H y (.tuple ds) ∧ SeqAt.shaped d = true ∧ SeqAt.shaped (.tuple ds) = true ∧ Q (.bl (ds.any fun z => PyData.eqv z d)) H) := by
  intro pins s σ H x y v u Q I rx ry ⟨d, ds, hd, he, sd, se, q⟩
  obtain ⟨as, r1⟩ := Dp.reads I d x v hd rx
  obtain ⟨bs, r2⟩ := Dp.reads I (.tuple ds) y u he ry
  exact SeqAt.in_tuple_reads r2 r1 (SeqAt.canLay_of_shaped se) (SeqAt.canLay_of_shaped sd) (room_in_shaped sd hu) ⟨.bl _, H, I, rfl, q⟩
theorem op_notIn_tupD (hu : X.A.units + 65 < cLine) : OpR X (compareOp .NotIn) (fun x y H Q => ∃ d ds, Dp X.K H x d ∧ Dp X.K H y (.tuple ds) ∧ SeqAt.shaped d = true ∧ SeqAt.shaped (.tuple ds) = true ∧ Q (.bl (!ds.any fun z => PyData.eqv z d)) H) := by
  intro pins s σ H x y v u Q I rx ry ⟨d, ds, hd, he, sd, se, q⟩
  obtain ⟨as, r1⟩ := Dp.reads I d x v hd rx
  obtain ⟨bs, r2⟩ := Dp.reads I (.tuple ds) y u he ry
  exact SeqAt.notIn_tuple_reads r2 r1 (SeqAt.canLay_of_shaped se) (SeqAt.canLay_of_shaped sd) (room_in_shaped sd hu) ⟨.bl _, H, I, rfl, q⟩
theorem okE_both {a b : D} (h : (okE a && okE b) = true) : (noD a = true ∧ SeqAt.shaped a = true) ∧ noD b = true ∧ SeqAt.shaped b = true := by
  unfold okE at h
  simp only [Bool.and_eq_true] at h
  exact h
theorem RelKs.dget {a : Addr} {kvs : List (Key × V)} {ds : List (D × D)} {x : V} {k : Key} (hR : Rd H a (.dK kvs)) (r : RelKs K S H kvs ds) (hx : x = kV k) : ∃ o, DGet H a x o ∧ o.isSome = (PD.dget ds k).isSome ∧ ∀ d, PD.dget ds k = some d → ∃ v, o = some v ∧ RelD K S H v d := by
  rcases r.valV k with ⟨e1, e2⟩ | ⟨v, d, e1, e2, r'⟩
  · exact ⟨none, .inl ⟨kvs, k, hR, hx, e1.symm⟩, by rw [e2]; rfl, fun d e => by rw [e2] at e; cases e⟩
  · exact ⟨some v, .inl ⟨kvs, k, hR, hx, e1.symm⟩, by rw [e2]; rfl, fun d' e => by rw [e2] at e; cases e; exact ⟨v, rfl, r'⟩⟩
theorem o_in (hu : X.A.units + 65 < cLine) (hK : X.K = K := by rfl) : OpR X (compareOp .In) (rop K gIn) := by
  subst hK
  intro pins s σ H x y v u Q I rx ry ⟨S, d1, d2, d, r1, r2, e, occ, k⟩
  unfold gIn at e
  cases q : gInB d1 d2 with
  | none => rw [q] at e; cases e
  | some c =>
    rw [q] at e
    cases e
    have kk := k (.bl c) H (Ext.refl H) (.bl c)
    unfold gInB at q
    split at q
    · split at q
      · rename_i h
        cases q
        obtain ⟨⟨h1, h2⟩, h3, h4⟩ := okE_both h
        exact op_inD hu pins s σ H x y v u Q I rx ry ⟨d1, _, r1.dp h1, r2.dp h3, h2, h4, kk⟩
      · cases q
    · split at q
      · rename_i h
        cases q
        obtain ⟨⟨h1, h2⟩, h3, h4⟩ := okE_both h
        exact op_in_tupD hu pins s σ H x y v u Q I rx ry ⟨d1, _, r1.dp h1, r2.dp h3, h2, h4, kk⟩
      · cases q
    · split at q
      · cases q
      rename_i hnT
      have hnT := Bool.eq_false_iff.mpr hnT
      cases ek : keyD d1 with
      | none => rw [ek] at q; cases q
      | some key =>
        rw [ek] at q
        cases q
        have e1 := keyD_some ek
        subst e1
        obtain ⟨a, kvs, rfl, hR, rk⟩ := r2.dict hnT
        obtain ⟨o, g, e2, _⟩ := rk.dget (x := x) (k := key) hR r1.key
        refine op_dict_in (by omega) pins s σ H x _ v u Q I rx ry ⟨a, o, rfl, g, ?_⟩
        rw [e2]
        exact kk
    · split at q
      · cases q
        exact op_in_str pins s σ H x y v u Q I rx ry ⟨_, _, r1.str, r2.str, kk⟩
      · cases q
    · cases q
theorem o_notIn (hu : X.A.units + 65 < cLine) (hK : X.K = K := by rfl) : OpR X (compareOp .NotIn) (rop K gNotIn) := by
  subst hK
  intro pins s σ H x y v u Q I rx ry ⟨S, d1, d2, d, r1, r2, e, occ, k⟩
  unfold gNotIn at e
  cases q : gInB d1 d2 with
  | none => rw [q] at e; cases e
  | some c =>
    rw [q] at e
    cases e
    have kk := k (.bl (!c)) H (Ext.refl H) (.bl _)
    unfold gInB at q
    split at q
    · split at q
      · rename_i h
        cases q
        obtain ⟨⟨h1, h2⟩, h3, h4⟩ := okE_both h
        exact op_notInD hu pins s σ H x y v u Q I rx ry ⟨d1, _, r1.dp h1, r2.dp h3, h2, h4, kk⟩
      · cases q
    · split at q
      · rename_i h
        cases q
        obtain ⟨⟨h1, h2⟩, h3, h4⟩ := okE_both h
        exact op_notIn_tupD hu pins s σ H x y v u Q I rx ry ⟨d1, _, r1.dp h1, r2.dp h3, h2, h4, kk⟩
      · cases q
    · split at q
      · cases q
      rename_i hnT
      have hnT := Bool.eq_false_iff.mpr hnT
      cases ek : keyD d1 with
      | none => rw [ek] at q; cases q
      | some key =>
        rw [ek] at q
        cases q
        have e1 := keyD_some ek
        subst e1
        obtain ⟨a, kvs, rfl, hR, rk⟩ := r2.dict hnT
        obtain ⟨o, g, e2, _⟩ := rk.dget (x := x) (k := key) hR r1.key
        refine op_dict_notIn (by omega) pins s σ H x _ v u Q I rx ry ⟨a, o, rfl, g, ?_⟩
        rw [e2]
        exact kk
    · split at q
      · cases q
        exact op_notIn_str pins s σ H x y v u Q I rx ry ⟨_, _, r1.str, r2.str, kk⟩
      · cases q
    · cases q
theorem o_ix (hu : X.A.units + 1 < cLine) (hK : X.K = K := by rfl) : IxR X (rop K gIx) := by
  subst hK
  intro value slice pins s σ H x y v u Q I rx ry ⟨S, d1, d2, d, r1, r2, e, occ, k⟩ hs
  unfold gIx at e
  split at e
  · obtain ⟨a, xs, rfl, h1, q1⟩ := r1.list
    obtain ⟨w, e1, q2⟩ := q1.atI e
    exact ix_list value slice pins s σ H _ y v u Q I rx ry ⟨a, xs, _, w, rfl, r2.int, h1, e1, k w H (Ext.refl H) q2⟩ hs
  · obtain ⟨a, xs, rfl, h1, q1⟩ := r1.tuple
    obtain ⟨w, e1, q2⟩ := q1.atI e
    exact ix_tup value slice pins s σ H _ y v u Q I rx ry ⟨a, xs, _, w, rfl, r2.int, h1, e1, k w H (Ext.refl H) q2⟩ hs
  · split at e
    · rename_i z i hl
      cases ec : L2.atI z.cps.toList i with
      | none => rw [ec] at e; cases e
      | some c =>
        rw [ec] at e
        cases e
        exact ix_str value slice pins s σ H x y v u Q I rx ry ⟨z, i, c, r1.str, r2.int, hl, ec, k _ H (Ext.refl H) (.str _)⟩ hs
    · cases e
  · rename_i _ a
    cases ek : keyD d2 with
    | none => rw [ek] at e; cases e
    | some key =>
      rw [ek] at e
      have e1 := keyD_some ek
      subst e1
      rcases r1.dict2 with ⟨ad, kv, rfl, hR, rk⟩ | ⟨_, _, _, _, hT⟩
      rotate_left
      · have e : dget _ key = some d := e
        rw [hT.dget] at e; cases e
      obtain ⟨o, g, _, e3⟩ := rk.dget (x := y) (k := key) hR r2.key
      obtain ⟨w, rfl, rw'⟩ := e3 d e
      exact ix_dict hu value slice pins s σ H _ y v u Q I rx ry ⟨ad, w, rfl, g, k w H (Ext.refl H) rw'⟩ hs
  · cases e
end

/-! ### slices -/
def cutD (ds : List D) (lo hi : Option Int) : List D := (ds.drop (HT.sIx ds.length 0 lo)).take (HT.sIx ds.length ds.length hi - HT.sIx ds.length 0 lo)
def gSl (lo hi : Option Int) : D → Option D
  | .list ds => some (.list (cutD ds lo hi))
  | .tuple ds => some (.tuple (cutD ds lo hi))
  | .str z => if z.length ≤ sizeLine then some (.str (cutS z lo hi)) else none
  | _ => none
def rsl (K : PySem.W.Frag) : V → Option Int → Option Int → Hp → VK → Prop := fun x lo hi H Q => ∃ S d1 d, RR K S H x d1 ∧ gSl lo hi d1 = some d ∧ (∀ a, S a → H a ≠ none) ∧ ∀ v H', Ext H H' → RelD K S H' v d → Q v H'
section
variable {X : Cx} {F : Frm} {K : PySem.W.Frag} {S : Addr → Prop} {H : Hp}
theorem RelDs.cut {xs : List V} {ds : List D} {lo hi : Option Int} (r : RelDs K S H xs ds) : RelDs K S H (cutV xs lo hi) (cutD ds lo hi) := by
  unfold cutV cutD
  rw [r.length]
  exact (r.drop _).take _
theorem o_sl (hK : X.K = K := by rfl) : SlR X (rsl K) := by
  subst hK
  intro pins s σ H x v vl vu lo hi sl Q I rx hs pl pu ⟨S, d1, d, r1, e, occ, k⟩
  unfold gSl at e
  split at e
  · cases e
    obtain ⟨a, xs, rfl, h1, q1⟩ := r1.list
    exact sl_list pins s σ H _ v vl vu lo hi sl Q I rx hs pl pu ⟨a, xs, rfl, h1, fun p hp => k _ _ (Ext.new hp) (.lst (fun z => occ _ z hp) (.inl upd_same) (q1.cut.ext (Ext.new hp)))⟩
  · cases e
    have R1 := r1.tupleD
    obtain ⟨a, xs, rfl, h1, q1⟩ := r1.tuple
    refine FrzT.sl_tupAF pins s σ H _ v vl vu lo hi sl Q I rx hs pl pu ⟨a, xs, rfl, h1, fun hw => ?_, fun _ p o hp hc hd => k _ _ (Ext.new hp) (.tup (fun z => occ _ z hp) ⟨o, upd_same, hc, hd⟩ (q1.cut.ext (Ext.new hp)))⟩
    have e : ∀ ds : List D, xs.length = ds.length → cutD ds lo hi = ds := fun ds hl => by
      unfold cutD
      rw [← hl, hw.1, hw.2, List.drop_zero, Nat.sub_zero, List.take_of_length_le (by omega)]
    rw [e _ q1.length] at k
    exact k _ H (Ext.refl H) R1
  · split at e
    · rename_i hl
      cases e
      exact sl_str pins s σ H x v vl vu lo hi sl Q I rx hs pl pu ⟨_, r1.str, hl, k _ H (Ext.refl H) (.str _)⟩
    · cases e
  · cases e
/-- a slice's part -/
def rdO (F : Frm) (m : M (Option Int)) (eff : List Nat) : TO := fun σ H Q => ∃ B A ρ o ρ', Ev F B A σ H ρ ∧ m ρ = some (o, ρ') ∧ ∀ H', Post F B A σ H ρ eff H' ρ' → Q o H'
def mNoP : M (Option Int) := fun ρ => some (none, ρ)
def mP (m : M D) : M (Option Int) := fun ρ => match m ρ with
  | some (.int i, ρ1) => some (some i, ρ1)
  | _ => none
theorem PO.mono {e : Option Expr} {t t' : TO} (h : PO X e t) (hm : ∀ σ H Q, t' σ H Q → t σ H Q) : PO X e t' := ⟨fun pins s σ H Q I q => h.run pins s σ H Q I (hm σ H Q q)⟩
theorem xo_none : PO X none (rdO F mNoP []) := PO.mono po_none fun σ H Q ⟨B, A, ρ, o, ρ', E, hm, k⟩ => by
  cases hm
  exact k H (Post.refl E)
theorem xo_some {e : Expr} {m : M D} {dep eff : List Nat} (h : PE X e (rd F m dep eff)) : PO X (some e) (rdO F (mP m) eff) := PO.mono (po_some h) fun σ H Q ⟨B, A, ρ, o, ρ', E, hm, k⟩ => by
  unfold mP at hm
  split at hm
  · rename_i i ρ1 e1
    cases hm
    exact ⟨B, A, ρ, _, _, E, e1, fun v H1 P1 r1 => ⟨i, (r1.rr P1.env).int, k H1 P1⟩⟩
  · cases hm
def mSl (m : M D) (ml mh : M (Option Int)) : M D := fun ρ => match m ρ with
  | some (d, ρ1) => (match ml ρ1 with
    | some (lo, ρ2) => (match mh ρ2 with
      | some (hi, ρ3) => (match gSl lo hi d with
        | some r => some (r, ρ3)
        | none => none)
      | none => none)
    | none => none)
  | none => none
theorem x_slice {e : Expr} {lo hi : Option Expr} {p2 pos : Pos} {m : M D} {ml mh : M (Option Int)} {dep eff effl effh : List Nat} (he : PE X e (rd F m dep eff)) (hl : PO X lo (rdO F ml effl)) (hh : PO X hi (rdO F mh effh)) (hd1 : ∀ i ∈ dep, i ∉ effl := by decide) (hd2 : ∀ i ∈ dep, i ∉ effh := by decide) (hK : X.K = F.K := by rfl) :
    PE X (.Subscript e (.Slice lo hi none p2) pos) (rd F (mSl m ml mh) [] (eff ++ (effl ++ effh))) := by
  refine PE.mono (pe_slice (o_sl hK) he hl hh) fun σ H Q ⟨B, A, ρ, d, ρ', E, hm, k⟩ => ?_
  unfold mSl at hm
  split at hm
  · rename_i d1 ρ1 e1
    split at hm
    · rename_i lo ρ2 e2
      split at hm
      · rename_i hi ρ3 e3
        split at hm
        · rename_i r e4
          cases hm
          refine ⟨B, A, ρ, d1, ρ1, E, e1, fun v H1 P1 r1 => ⟨B, A, ρ1, lo, ρ2, P1.env, e2, fun H2 P2 => ⟨B, A, ρ2, hi, _, P2.env, e3, fun H3 P3 => ?_⟩⟩⟩
          exact ⟨_, d1, d, ((r1.later P2.gro P2.lv hd1).later P3.gro P3.lv hd2).rr P3.env, e4, P3.env.occA, fun v H' g r => k v H' ((P1.trans (P2.trans P3)).ext g) (.inl r)⟩
        · cases hm
      · cases hm
    · cases hm
  · cases hm
end
end PD

set_option Elab.async false
set_option linter.all false
set_option maxRecDepth 100000
set_option maxHeartbeats 2000000
/-! PDe: built-in functions on data. -/
namespace PD
open PySem PySem.Spec PyProof.Rows L2 GxR
abbrev allInts := gLe.allInts
def gLen : List D → Option D
  | [.list ds] => some (.int ds.length)
  | [.tuple ds] => some (.int ds.length)
  | [.dict ds] => if isT ds then none else some (.int ds.length)
  | [.str z] => if z.length ≤ sizeLine then some (.int z.length) else none
  | _ => none
def gAbs : List D → Option D
  | [.int i] => some (.int (if i < 0 then -i else i))
  | _ => none
def gInt : List D → Option D
  | [.int i] => some (.int i)
  | [.bool k] => some (.int (if k then 1 else 0))
  | _ => none
def gMax2 : List D → Option D
  | [.int i, .int j] => some (.int (if j > i then j else i))
  | _ => none
def gMin2 : List D → Option D
  | [.int i, .int j] => some (.int (if j < i then j else i))
  | _ => none
def gStr : List D → Option D
  | [.int i] => if i.natAbs.log2 < 1920 then some (.str (toString i)) else none
  | [.str z] => some (.str z)
  | _ => none
def gListOf : List D → Option D
  | [.list ds] => some (.list ds)
  | [.tuple ds] => some (.list ds)
  | [.dict ds] => if isT ds then none else some (.list (ds.map (·.1)))
  | _ => none
def gTupOf : List D → Option D
  | [.list ds] => some (.tuple ds)
  | [.tuple ds] => some (.tuple ds)
  | _ => none
def gSum : List D → Option D
  | [.list ds] => (allInts ds).map fun ns => .int ns.sum
  | _ => none
def sortI (ns : List Int) : List Int := ns.mergeSort (fun a b => decide (a ≤ b))
def gSorted : List D → Option D
  | [.list ds] => (allInts ds).map fun ns => .list ((sortI ns).map .int)
  | [.dict kvs] => (allInts (kvs.map (·.1))).bind fun ks => if ks.length < 64 then some (.list ((sortI ks).map .int)) else none
  | _ => none
theorem sortI_perm (ns : List Int) : (sortI ns).Perm ns := List.mergeSort_perm ns _
theorem sortI_sorted (ns : List Int) : (sortI ns).Pairwise (· ≤ ·) := by
  have h := List.pairwise_mergeSort (le := fun a b : Int => decide (a ≤ b)) (fun a b c h1 h2 => by simp only [decide_eq_true_eq] at *; omega) (fun a b => by simp only [Bool.or_eq_true, decide_eq_true_eq]; omega) ns
  exact h.imp fun h => by simpa using h
theorem sorted_uniq {xs ys : List Int} (p : xs.Perm ys) (hx : xs.Pairwise (· ≤ ·)) (hy : ys.Pairwise (· ≤ ·)) : xs = ys := List.Perm.eq_of_pairwise (fun a b _ _ h1 h2 => by omega) hx hy p
section
variable {X : Cx} {K : PySem.W.Frag} {S : Addr → Prop} {H : Hp}
theorem prs1 {vs : List V} {d : D} (h : Paired (RR K S H) vs [d]) : ∃ v, vs = [v] ∧ RR K S H v d := by
  cases h with
  | cons r t => cases t; exact ⟨_, rfl, r⟩
theorem prs2 {vs : List V} {d e : D} (h : Paired (RR K S H) vs [d, e]) : ∃ v w, vs = [v, w] ∧ RR K S H v d ∧ RR K S H w e := by
  cases h with
  | cons r t => cases t with
    | cons r' t => cases t; exact ⟨_, _, rfl, r, r'⟩
theorem RelKs.length : ∀ {vs : List (Key × V)} {ds : List (D × D)}, RelKs K S H vs ds → vs.length = ds.length
  | _, _, .nil => rfl
  | _, _, .cons _ t => congrArg (· + 1) t.length
theorem RelKs.keys : ∀ {vs : List (Key × V)} {ds : List (D × D)}, RelKs K S H vs ds → RelDs K S H (vs.map fun kv => kV kv.1) (ds.map (·.1))
  | _, _, .nil => .nil
  | _, _, .cons (k := k) _ t => .cons (by cases k; exact .int _; exact .str _) t.keys
theorem call_lenDK : CallR X (.builtin "len") (fun xs H Q => ∃ a kvs, xs = [V.ref a] ∧ Rd H a (.dK kvs) ∧ Q (.int kvs.length) H) := by
  intro pins s σ H xs us Q I r ⟨a, kvs, ex, hd, q⟩
  subst ex
  obtain ⟨u, rfl, ru⟩ := vals1 r
  cases ru
  exact d_len I hd fun t s' I' => ⟨.int kvs.length, H, I', ⟨t, rfl⟩, q⟩
theorem c_len (hK : X.K = K := by rfl) : CallR X (.builtin "len") (rcall K gLen) := by
  subst hK
  intro pins s σ H xs us Q I r ⟨S, ds, d, hr, e, occ, k⟩
  unfold gLen at e
  split at e
  · cases e
    obtain ⟨v, rfl, r1⟩ := prs1 hr
    obtain ⟨a, ys, rfl, h1, q1⟩ := r1.list
    exact call_len pins s σ H _ us Q I r ⟨_, ys.length, rfl, .inl ⟨ys, h1, rfl⟩, by rw [q1.length]; exact k _ H (Ext.refl H) (.int _)⟩
  · cases e
    obtain ⟨v, rfl, r1⟩ := prs1 hr
    obtain ⟨a, ys, rfl, h1, q1⟩ := r1.tuple
    exact call_len pins s σ H _ us Q I r ⟨_, ys.length, rfl, .inr ⟨ys, h1, rfl⟩, by rw [q1.length]; exact k _ H (Ext.refl H) (.int _)⟩
  · split at e
    · cases e
    rename_i hnT
    cases e
    obtain ⟨v, rfl, r1⟩ := prs1 hr
    obtain ⟨a, ys, rfl, h1, q1⟩ := r1.dict (Bool.eq_false_iff.mpr hnT)
    exact call_lenDK pins s σ H _ us Q I r ⟨a, ys, rfl, h1, by rw [q1.length]; exact k _ H (Ext.refl H) (.int _)⟩
  · split at e
    · rename_i z hl
      cases e
      obtain ⟨v, rfl, r1⟩ := prs1 hr
      exact call_len pins s σ H _ us Q I r ⟨_, z.length, rfl, by rw [r1.str]; exact ⟨hl, rfl⟩, k _ H (Ext.refl H) (.int _)⟩
    · cases e
  · cases e
theorem c_abs : CallR X (.builtin "abs") (rcall K gAbs) := by
  intro pins s σ H xs us Q I r ⟨S, ds, d, hr, e, occ, k⟩
  unfold gAbs at e
  split at e
  · cases e
    obtain ⟨v, rfl, r1⟩ := prs1 hr
    exact call_abs pins s σ H _ us Q I r ⟨_, by rw [r1.int], k _ H (Ext.refl H) (.int _)⟩
  · cases e
theorem c_int : CallR X (.type "int") (rcall K gInt) := by
  intro pins s σ H xs us Q I r ⟨S, ds, d, hr, e, occ, k⟩
  unfold gInt at e
  split at e
  · cases e
    obtain ⟨v, rfl, r1⟩ := prs1 hr
    exact call_int1 pins s σ H _ us Q I r (.inl ⟨_, by rw [r1.int], k _ H (Ext.refl H) (.int _)⟩)
  · cases e
    obtain ⟨v, rfl, r1⟩ := prs1 hr
    exact call_int1 pins s σ H _ us Q I r (.inr ⟨_, by rw [r1.bool], k _ H (Ext.refl H) (.int _)⟩)
  · cases e
theorem c_max2 (hc : X.calm = true) : CallR X (.builtin "max") (rcall K gMax2) := by
  intro pins s σ H xs us Q I r ⟨S, ds, d, hr, e, occ, k⟩
  unfold gMax2 at e
  split at e
  · cases e
    obtain ⟨v, w, rfl, r1, r2⟩ := prs2 hr
    exact call_max2 hc pins s σ H _ us Q I r ⟨_, _, by rw [r1.int, r2.int], k _ H (Ext.refl H) (.int _)⟩
  · cases e
theorem c_min2 (hc : X.calm = true) : CallR X (.builtin "min") (rcall K gMin2) := by
  intro pins s σ H xs us Q I r ⟨S, ds, d, hr, e, occ, k⟩
  unfold gMin2 at e
  split at e
  · cases e
    obtain ⟨v, w, rfl, r1, r2⟩ := prs2 hr
    exact call_min2 hc pins s σ H _ us Q I r ⟨_, _, by rw [r1.int, r2.int], k _ H (Ext.refl H) (.int _)⟩
  · cases e
theorem c_str : CallR X (.type "str") (rcall K gStr) := by
  intro pins s σ H xs us Q I r ⟨S, ds, d, hr, e, occ, k⟩
  unfold gStr at e
  split at e
  · split at e
    · rename_i i hz
      cases e
      obtain ⟨v, rfl, r1⟩ := prs1 hr
      exact call_str_int pins s σ H _ us Q I r ⟨_, by rw [r1.int], hz, k _ H (Ext.refl H) (.str _)⟩
    · cases e
  · cases e
    obtain ⟨v, rfl, r1⟩ := prs1 hr
    exact SkE.call_str_str pins s σ H _ us Q I r ⟨_, by rw [r1.str], k _ H (Ext.refl H) (.str _)⟩
  · cases e
theorem c_list (hc : X.calm = true) (hK : X.K = K := by rfl) : CallR X (.type "list") (rcall K gListOf) := by
  subst hK
  intro pins s σ H xs us Q I r ⟨S, ds, d, hr, e, occ, k⟩
  unfold gListOf at e
  split at e
  · cases e
    obtain ⟨v, rfl, r1⟩ := prs1 hr
    obtain ⟨a, ys, rfl, h1, q1⟩ := r1.list
    exact call_list_of pins s σ H _ us Q I r ⟨a, ys, rfl, .inl h1, fun p hp => k _ _ (Ext.new hp) (.lst (fun z => occ _ z hp) (.inl upd_same) (q1.ext (Ext.new hp)))⟩
  · cases e
    obtain ⟨v, rfl, r1⟩ := prs1 hr
    obtain ⟨a, ys, rfl, h1, q1⟩ := r1.tuple
    exact call_list_of pins s σ H _ us Q I r ⟨a, ys, rfl, .inr h1, fun p hp => k _ _ (Ext.new hp) (.lst (fun z => occ _ z hp) (.inl upd_same) (q1.ext (Ext.new hp)))⟩
  · split at e
    · cases e
    rename_i hnT
    cases e
    obtain ⟨v, rfl, r1⟩ := prs1 hr
    obtain ⟨a, ys, rfl, h1, q1⟩ := r1.dict (Bool.eq_false_iff.mpr hnT)
    exact call_listD hc pins s σ H _ us Q I r ⟨a, ys, rfl, h1, fun p hp => k _ _ (Ext.new hp) (.lst (fun z => occ _ z hp) (.inl upd_same) (q1.keys.ext (Ext.new hp)))⟩
  · cases e
theorem c_tuple (hK : X.K = K := by rfl) : CallR X (.type "tuple") (rcall K gTupOf) := by
  subst hK
  intro pins s σ H xs us Q I r ⟨S, ds, d, hr, e, occ, k⟩
  unfold gTupOf at e
  split at e
  · cases e
    obtain ⟨v, rfl, r1⟩ := prs1 hr
    obtain ⟨a, ys, rfl, h1, q1⟩ := r1.list
    exact FrzT.call_tuple_ofF pins s σ H _ us Q I r ⟨a, ys, rfl, .inl ⟨h1, fun p o hp hc hd => k _ _ (Ext.new hp) (.tup (fun z => occ _ z hp) ⟨o, upd_same, hc, hd⟩ (q1.ext (Ext.new hp)))⟩⟩
  · cases e
    obtain ⟨v, rfl, r1⟩ := prs1 hr
    have R1 := r1.tupleD
    obtain ⟨a, ys, rfl, h1, q1⟩ := r1.tuple
    exact call_tuple_of pins s σ H _ us Q I r ⟨a, ys, rfl, .inr ⟨h1, k _ H (Ext.refl H) R1⟩⟩
  · cases e
theorem c_sum (hc : X.calm = true) (hK : X.K = K := by rfl) : CallR X (.builtin "sum") (rcall K gSum) := by
  subst hK
  intro pins s σ H xs us Q I r ⟨S, ds, d, hr, e, occ, k⟩
  unfold gSum at e
  split at e
  · rename_i l
    cases q : allInts l with
    | none => rw [q] at e; cases e
    | some ns =>
      rw [q] at e
      cases e
      obtain ⟨v, rfl, r1⟩ := prs1 hr
      obtain ⟨a, ys, rfl, h1, q1⟩ := r1.list
      have z := allInts_rel q q1
      subst z
      exact cr_sum hc pins s σ H _ us Q I r ⟨a, ns, rfl, h1, k _ H (Ext.refl H) (.int _)⟩
  · cases e
theorem rels_ints (ns : List Int) : RelDs K S H (ns.map V.int) (ns.map .int) := by
  induction ns with
  | nil => exact .nil
  | cons n ns ih => exact .cons (.int n) ih
theorem keys_ints {S : Addr → Prop} {H : Hp} : ∀ {kvs : List (Key × V)} {ds : List (D × D)} {ks : List Int}, RelKs K S H kvs ds → allInts (ds.map (·.1)) = some ks → kvs.map (·.1) = ks.map Sum.inl
  | _, _, ks, .nil, e => by cases e; rfl
  | _, _, ks, .cons (k := k) (ds := ds) r t, e => by
    cases k with
    | inl i =>
      have e : (allInts (ds.map (·.1))).map (i :: ·) = some ks := e
      cases q : allInts (ds.map (·.1)) with
      | none => rw [q] at e; cases e
      | some ks' =>
        rw [q] at e
        cases e
        rw [List.map_cons, keys_ints t q]; rfl
    | inr x => cases e
theorem c_sorted (hcalm : X.calm = true) (hK : X.K = K := by rfl) : CallR X (.builtin "sorted") (rcall K gSorted) := by
  subst hK
  intro pins s σ H xs us Q I r ⟨S, ds, d, hr, e, occ, k⟩
  unfold gSorted at e
  split at e
  · rename_i l
    cases q : allInts l with
    | none => rw [q] at e; cases e
    | some ns =>
      rw [q] at e
      cases e
      obtain ⟨v, rfl, r1⟩ := prs1 hr
      obtain ⟨a, ys, rfl, h1, q1⟩ := r1.list
      have z := allInts_rel q q1
      subst z
      refine cr_sortedI pins s σ H _ us Q I r ⟨a, ns, rfl, h1, fun ns' p hp hs hn => ?_⟩
      have e : ns' = sortI ns := sorted_uniq (hp.trans (sortI_perm ns).symm) hs (sortI_sorted ns)
      subst e
      exact k _ _ (Ext.new hn) (.lst (fun z => occ _ z hn) (.inl upd_same) ((rels_ints _).ext (Ext.new hn)))
  · rename_i kvs
    cases q : allInts (kvs.map (·.1)) with
    | none => rw [q] at e; cases e
    | some ks =>
      rw [q] at e
      have e : (if ks.length < 64 then some (PyData.list ((sortI ks).map .int)) else none) = some d := e
      split at e
      · rename_i h64
        cases e
        obtain ⟨v, rfl, r1⟩ := prs1 hr
        rcases r1.dict2 with ⟨a, ys, rfl, h1, q1⟩ | ⟨_, _, _, _, hT⟩
        rotate_left
        · cases hT with
          | mk _ => cases q
        refine call_sortedDI hcalm pins s σ H _ us Q I r ⟨a, ys, ks, rfl, h1, keys_ints q1 q, h64, fun ns' p hp hs hn => ?_⟩
        have e : ns' = sortI ks := sorted_uniq (hp.trans (sortI_perm ks).symm) hs (sortI_sorted ks)
        subst e
        exact k _ _ (Ext.new hn) (.lst (fun z => occ _ z hn) (.inl upd_same) ((rels_ints _).ext (Ext.new hn)))
      · cases e
  · cases e
end
end PD

set_option Elab.async false
set_option linter.all false
set_option maxRecDepth 100000
set_option maxHeartbeats 2000000
/-! PDf: the slots' changes, statements, new things, things written. -/
namespace PD
open PySem PySem.Spec PyProof.Rows L2 GxR
section
variable {F : Frm} {B : List Addr} {A : Nat → Addr} {σ : L2.St} {H H' : Hp} {ρ ρ' : Rho}
theorem own_set {i : Nat} {z : Option (Bool × D)} {j : Nat} {e : D} (h : (ρ.set i z)[j]? = some (some (true, e))) : (i = j ∧ z = some (true, e)) ∨ (i ≠ j ∧ ρ[j]? = some (some (true, e))) := by
  rw [get_set] at h
  by_cases hij : i = j
  · rw [if_pos hij] at h
    split at h
    · exact .inl ⟨hij, Option.some.inj h⟩
    · cases h
  · rw [if_neg hij] at h
    exact .inr ⟨hij, h⟩
theorem sig_set {σ : L2.St} {i j : Nat} {z : Option V} (h : i ≠ j) : (σ.set i z)[j]? = σ[j]? := by rw [List.getElem?_set]; rw [if_neg h]
/-- a slot takes plain data -/
theorem Ev.setPlain (E : Ev F B A σ H ρ) {i : Nat} {v : V} {d : D} (hi : i ∉ F.io) (hl : i < ρ.length) (r : RelD F.K (Av F B A ρ) H v d) : Ev F B A (σ.set i (some v)) H (ρ.set i (some (false, d))) := by
  have hav : ∀ a, Av F B A (ρ.set i (some (false, d))) a → Av F B A ρ a := fun a h => by
    rcases h with h | h | ⟨j, e, h, z⟩
    · exact .inl h
    · exact .inr (.inl h)
    · rcases own_set h with ⟨_, q⟩ | ⟨_, q⟩
      · cases q
      · exact .inr (.inr ⟨j, e, q, z⟩)
  have own' : ∀ {j : Nat} {e : D}, (ρ.set i (some (false, d)))[j]? = some (some (true, e)) → i ≠ j ∧ ρ[j]? = some (some (true, e)) := fun h => by
    rcases own_set h with ⟨_, q⟩ | q
    · cases q
    · exact q
  refine ⟨by rw [List.length_set, List.length_set]; exact E.len, fun j e h => ?_, fun j e h => ?_, fun j k e1 e2 h1 h2 z => E.inj j k e1 e2 (own' h1).2 (own' h2).2 z, fun j e h hj => E.nS j e (own' h).2 hj, fun j hj => ?_, E.occ, E.occB, E.chg, E.tabs, fun r hr => (E.roots r hr).mono (C := fun _ => False) (Gro.refl _) hav fun _ z => z.elim⟩
  · rw [get_set] at h
    by_cases hij : i = j
    · subst hij
      rw [if_pos rfl, if_pos hl] at h
      cases h
      exact ⟨v, by rw [List.getElem?_set, if_pos rfl, if_pos (by rw [← E.len]; exact hl)], r.mono (C := fun _ => False) (Gro.refl _) hav fun _ z => z.elim⟩
    · rw [if_neg hij] at h
      obtain ⟨w, h1, h2⟩ := E.plain j e h
      exact ⟨w, by rw [sig_set hij]; exact h1, h2.mono (C := fun _ => False) (Gro.refl _) hav fun _ z => z.elim⟩
  · obtain ⟨hij, h⟩ := own' h
    obtain ⟨h1, h2⟩ := E.own j e h
    exact ⟨by rw [sig_set hij]; exact h1, h2.mono (C := fun _ => False) (Gro.refl _) hav (fun _ z => z.elim) id⟩
  · obtain ⟨h1, h2, h3, e, h4⟩ := E.ios j hj
    exact ⟨h1, h2, h3, e, by rw [get_set, if_neg (show ¬ i = j from fun z => hi (z ▸ hj))]; exact h4⟩
def upA (A : Nat → Addr) (i : Nat) (p : Addr) : Nat → Addr := fun j => if j = i then p else A j
theorem upA_same {i : Nat} {p : Addr} : upA A i p i = p := if_pos rfl
theorem upA_ne {i j : Nat} {p : Addr} (h : i ≠ j) : upA A i p j = A j := if_neg (Ne.symm h)
/-- a slot takes a new thing -/
theorem Ev.setOwn (E : Ev F (p :: B) A σ H ρ) {i : Nat} {d : D} (hi : i ∉ F.io) (hl : i < ρ.length) (r : RelO F.K (Av F (p :: B) A ρ) H p d) (hp : p ∉ B) : Ev F B (upA A i p) (σ.set i (some (.ref p))) H (ρ.set i (some (true, d))) := by
  have hav : ∀ a, Av F B (upA A i p) (ρ.set i (some (true, d))) a → Av F (p :: B) A ρ a := fun a h => by
    rcases h with h | h | ⟨j, e, h, z⟩
    · exact .inl h
    · exact .inr (.inl (List.mem_cons_of_mem _ h))
    · rcases own_set h with ⟨hij, q⟩ | ⟨hij, q⟩
      · rw [z, ← hij, upA_same]
        exact .inr (.inl List.mem_cons_self)
      · rw [z, upA_ne hij]
        exact .inr (.inr ⟨j, e, q, rfl⟩)
  obtain ⟨hn, h0, hS⟩ := E.occB p List.mem_cons_self
  have apart : ∀ {j : Nat} {e : D}, ρ[j]? = some (some (true, e)) → A j ≠ p := fun {j e} h z => by
    by_cases hj : j ∈ F.io
    · obtain ⟨_, _, h3, _⟩ := E.ios j hj
      exact h3 (z ▸ List.mem_cons_self)
    · exact (E.nS j e h hj).2.1 (z ▸ List.mem_cons_self)
  refine ⟨by rw [List.length_set, List.length_set]; exact E.len, fun j e h => ?_, fun j e h => ?_, fun j k e1 e2 h1 h2 z => ?_, fun j e h hj => ?_, fun j hj => ?_, E.occ, fun b hb => E.occB b (List.mem_cons_of_mem _ hb), E.chg, E.tabs, fun r hr => (E.roots r hr).mono (C := fun _ => False) (Gro.refl _) hav fun _ z => z.elim⟩
  · rw [get_set] at h
    by_cases hij : i = j
    · subst hij
      rw [if_pos rfl, if_pos hl] at h
      cases h
    · rw [if_neg hij] at h
      obtain ⟨w, h1, h2⟩ := E.plain j e h
      exact ⟨w, by rw [sig_set hij]; exact h1, h2.mono (C := fun _ => False) (Gro.refl _) hav fun _ z => z.elim⟩
  · rcases own_set h with ⟨hij, q⟩ | ⟨hij, q⟩
    · subst hij
      cases q
      exact ⟨by rw [List.getElem?_set, if_pos rfl, if_pos (by rw [← E.len]; exact hl), upA_same], by rw [upA_same]; exact r.mono (C := fun _ => False) (Gro.refl _) hav (fun _ z => z.elim) id⟩
    · obtain ⟨h1, h2⟩ := E.own j e q
      exact ⟨by rw [sig_set hij, upA_ne hij]; exact h1, by rw [upA_ne hij]; exact h2.mono (C := fun _ => False) (Gro.refl _) hav (fun _ z => z.elim) id⟩
  · rcases own_set h1 with ⟨hij, q1⟩ | ⟨hij, q1⟩ <;> rcases own_set h2 with ⟨hik, q2⟩ | ⟨hik, q2⟩
    · exact hij.symm.trans hik
    · rw [← hij, upA_same, upA_ne hik] at z
      exact absurd z.symm (apart q2)
    · rw [← hik, upA_same, upA_ne hij] at z
      exact absurd z (apart q1)
    · rw [upA_ne hij, upA_ne hik] at z
      exact E.inj j k e1 e2 q1 q2 z
  · rcases own_set h with ⟨hij, q⟩ | ⟨hij, q⟩
    · rw [← hij, upA_same]
      exact ⟨hS, hp, h0⟩
    · rw [upA_ne hij]
      obtain ⟨g1, g2, g3⟩ := E.nS j e q hj
      exact ⟨g1, fun z => g2 (List.mem_cons_of_mem _ z), g3⟩
  · obtain ⟨h1, h2, h3, e, h4⟩ := E.ios j hj
    have hij : i ≠ j := fun z => hi (z ▸ hj)
    exact ⟨by rw [upA_ne hij]; exact h1, by rw [upA_ne hij]; exact h2, by rw [upA_ne hij]; exact fun z => h3 (List.mem_cons_of_mem _ z), e, by rw [get_set, if_neg hij]; exact h4⟩
/-- an owned thing is written -/
theorem Ev.write (E : Ev F B A σ H ρ) {i : Nat} {d d' : D} (e : ρ[i]? = some (some (true, d))) (g : Gro (fun a => a = A i) H H') (r : RelO F.K (Av F B A ρ) H' (A i) d') : Ev F B A σ H' (ρ.set i (some (true, d'))) := by
  have hl : i < ρ.length := (List.getElem?_eq_some_iff.mp e).1
  have hC : ∀ a, a = A i → Av F B A ρ a := fun a h => .inr (.inr ⟨i, d, e, h⟩)
  have own' : ∀ {j : Nat} {e' : D}, (ρ.set i (some (true, d')))[j]? = some (some (true, e')) → ∃ e0, ρ[j]? = some (some (true, e0)) := fun {j e'} h => by
    rcases own_set h with ⟨hij, _⟩ | ⟨_, q⟩
    · exact ⟨d, hij ▸ e⟩
    · exact ⟨e', q⟩
  have hav : ∀ a, Av F B A (ρ.set i (some (true, d'))) a → Av F B A ρ a := fun a h => by
    rcases h with h | h | ⟨j, e', h, z⟩
    · exact .inl h
    · exact .inr (.inl h)
    · obtain ⟨e0, q⟩ := own' h
      exact .inr (.inr ⟨j, e0, q, z⟩)
  refine ⟨by rw [List.length_set]; exact E.len, fun j e' h => ?_, fun j e' h => ?_, fun j k e1 e2 h1 h2 z => ?_, fun j e' h hj => ?_, fun j hj => ?_, fun a h => g.live a (E.occ a h), fun b hb => ⟨g.live b (E.occB b hb).1, (E.occB b hb).2⟩, ⟨fun a o h n t => ?_, fun P t => g.tabs P (E.chg.tabs P t), fun a n => g.live a (E.chg.live a n)⟩, fun P hP => g.tabs P (E.tabs P hP), fun r hr => (E.roots r hr).mono g hav hC⟩
  · rw [get_set] at h
    by_cases hij : i = j
    · subst hij
      rw [if_pos rfl, if_pos hl] at h
      cases h
    · rw [if_neg hij] at h
      obtain ⟨w, h1, h2⟩ := E.plain j e' h
      exact ⟨w, h1, h2.mono g hav hC⟩
  · rcases own_set h with ⟨hij, q⟩ | ⟨hij, q⟩
    · subst hij
      cases q
      exact ⟨(E.own i d e).1, r.mono (C := fun _ => False) (Gro.refl _) hav (fun _ z => z.elim) id⟩
    · obtain ⟨h1, h2⟩ := E.own j e' q
      exact ⟨h1, h2.mono g hav hC fun z => hij (E.inj i j d e' e q z.symm)⟩
  · obtain ⟨f1, q1⟩ := own' h1
    obtain ⟨f2, q2⟩ := own' h2
    exact E.inj j k f1 f2 q1 q2 z
  · obtain ⟨f1, q1⟩ := own' h
    exact E.nS j f1 q1 hj
  · obtain ⟨h1, h2, h3, e', h4⟩ := E.ios j hj
    refine ⟨h1, h2, h3, ?_⟩
    rw [get_set]
    by_cases hij : i = j
    · rw [if_pos hij, if_pos hl]
      exact ⟨d', rfl⟩
    · rw [if_neg hij]
      exact ⟨e', h4⟩
  · refine g.keep a o (E.chg.keep a o h n t) (fun z => ?_) t
    by_cases hj : i ∈ F.io
    · exact n ⟨i, hj, z.trans (E.ios i hj).1⟩
    · rw [z, (E.nS i d e hj).2.2] at h
      cases h
theorem Post.write {eff : List Nat} {H0 : Hp} {ρ0 : Rho} (P : Post F B A σ H0 ρ0 eff H ρ) {i : Nat} {d d' : D} (e : ρ[i]? = some (some (true, d))) (g : Gro (fun a => a = A i) H H') (r : RelO F.K (Av F B A ρ) H' (A i) d') : Post F B A σ H0 ρ0 (eff ++ [i]) H' (ρ.set i (some (true, d'))) := by
  refine P.trans ⟨P.env.write e g r, g.mono fun a z => ⟨i, d, e, z⟩, ⟨fun j hj => by rw [get_set, if_neg (fun z => hj (by rw [z]; simp))], fun j e' h => ?_⟩⟩
  rcases own_set h with ⟨hij, _⟩ | ⟨_, q⟩
  · exact ⟨d, hij ▸ e⟩
  · exact ⟨e', q⟩
theorem Gro.upd {a : Addr} {o o' : HO} (h : H a = some o) (hn : ∀ ps, o ≠ .tbl ps) : Gro (fun b => b = a) H (upd H a o') := by
  refine ⟨fun b u e n _ => by rw [upd_ne n]; exact e, fun P ⟨ps, e, t⟩ => ⟨ps, ?_, t⟩, fun b n => ?_⟩
  · rw [upd_ne (fun z => by rw [z, h] at e; exact hn ps (Option.some.inj e))]
    exact e
  · by_cases hb : b = a
    · rw [hb, upd_same]; simp
    · rw [upd_ne hb]; exact n
end

/-! ### statements -/
inductive Out where
  | nx (ρ : Rho) | rt (d : D) (ρ : Rho) | bk (ρ : Rho) | ct (ρ : Rho)
/-- what a def answers with -/
def Ret (F : Frm) (ρ : Rho) (H : Hp) (v : V) (d : D) : Prop := if F.new then ∃ p, v = .ref p ∧ F.H0 p = none ∧ RelO F.K (fun a => F.S a ∨ a = p) H p d ∧ ∀ j ∈ F.io, ∀ d', ρ[j]? = some (some (true, d')) → RelO F.K (fun a => F.S a ∨ a = p) H (F.A0 j) d' else RelD F.K F.S H v d
theorem Ret.plain {F : Frm} (hn : F.new = false) {ρ : Rho} {H : Hp} {v : V} {d : D} (r : RelD F.K F.S H v d) : Ret F ρ H v d := by unfold Ret; rw [hn]; exact r
theorem Ret.fresh {F : Frm} (hn : F.new = true) {B : List Addr} {A : Nat → Addr} {σ : L2.St} {ρ : Rho} {H : Hp} {p : Addr} {d : D} (E : Ev F B A σ H ρ) (h0 : F.H0 p = none) (hp : Av F B A ρ p) (r : RelO F.K (Av F B A ρ) H p d) : Ret F ρ H (.ref p) d := by
  have hS : ∀ a, (F.S a ∨ a = p) → Av F B A ρ a := fun a z => z.elim .inl fun z => z ▸ hp
  unfold Ret; rw [hn]
  exact ⟨p, rfl, h0, r.mono (C := fun _ => False) (Gro.refl _) hS (fun _ z => z.elim) id, fun j hj d' e => by
    rw [← (E.ios j hj).1]
    exact (E.own j d' e).2.mono (C := fun _ => False) (Gro.refl _) hS (fun _ z => z.elim) id⟩
def Done (F : Frm) (Dn : Ends) : Out → Prop
  | .nx ρ => ∀ A σ H, Ev F [] A σ H ρ → Dn.nx σ H
  | .bk ρ => ∀ A σ H, Ev F [] A σ H ρ → Dn.bk σ H
  | .ct ρ => ∀ A σ H, Ev F [] A σ H ρ → Dn.ct σ H
  | .rt d ρ => ∀ A σ v H, Ev F [] A σ H ρ → Ret F ρ H v d → Dn.rt v H
abbrev MS := Rho → Option Out
def rdS (F : Frm) (m : MS) : TS := fun Dn σ H => ∃ A ρ out, Ev F [] A σ H ρ ∧ m ρ = some out ∧ Done F Dn out
section
variable {X : Cx} {F : Frm} {pos : Pos}
theorem PSs.mono {st : List Stmt} {t t' : TS} (h : PSs X st t) (hm : ∀ Dn σ H, t' Dn σ H → t Dn σ H) : PSs X st t' := ⟨fun pins s σ H Dn I q => h.run pins s σ H Dn I (hm Dn σ H q)⟩
def mNext : MS := fun ρ => some (.nx ρ)
def mSeq (m1 m2 : MS) : MS := fun ρ => match m1 ρ with
  | some (.nx ρ1) => m2 ρ1
  | r => r
theorem ss_nil : PSs X [] (rdS F mNext) := PSs.mono pss_nil fun Dn σ H ⟨A, ρ, out, E, hm, k⟩ => by
  cases hm
  exact k A σ H E
theorem ss_cons {st : Stmt} {rest : List Stmt} {m1 m2 : MS} (h1 : PS X st (rdS F m1)) (h2 : PSs X rest (rdS F m2)) : PSs X (st :: rest) (rdS F (mSeq m1 m2)) := PSs.mono (pss_cons h1 h2) fun Dn σ H ⟨A, ρ, out, E, hm, k⟩ => by
  unfold mSeq at hm
  split at hm
  · rename_i ρ1 e1
    exact ⟨A, ρ, .nx ρ1, E, e1, fun A' σ' H' E' => ⟨A', ρ1, out, E', hm, k⟩⟩
  · rename_i r hr
    refine ⟨A, ρ, out, E, hm, ?_⟩
    cases out with
    | nx ρ1 => exact absurd hm (hr ρ1)
    | rt d ρ1 => exact k
    | bk ρ1 => exact k
    | ct ρ1 => exact k
def mBreak : MS := fun ρ => some (.bk ρ)
def mCont : MS := fun ρ => some (.ct ρ)
theorem s_pass : PS X (.Pass pos) (rdS F mNext) := PS.mono ps_pass fun Dn σ H ⟨A, ρ, out, E, hm, k⟩ => by cases hm; exact k A σ H E
theorem s_break : PS X (.Break pos) (rdS F mBreak) := PS.mono ps_break fun Dn σ H ⟨A, ρ, out, E, hm, k⟩ => by cases hm; exact k A σ H E
theorem s_continue : PS X (.Continue pos) (rdS F mCont) := PS.mono ps_continue fun Dn σ H ⟨A, ρ, out, E, hm, k⟩ => by cases hm; exact k A σ H E
def mRet (m : M D) : MS := fun ρ => (m ρ).map fun r => .rt r.1 r.2
theorem Val.out {A : Nat → Addr} {σ : L2.St} {H : Hp} {ρ : Rho} {dep : List Nat} {v : V} {d : D} (E : Ev F [] A σ H ρ) (r : Val F [] A ρ H dep v d) (hd : ∀ i ∈ dep, i ∉ F.io) : RelD F.K F.S H v d := by
  rcases r with r | ⟨i, hi, e, rfl⟩
  · exact r.mono (C := fun _ => False) (Gro.refl _) (fun a z => .inl z) fun _ z => z.elim
  · exact (E.own i d e).2.relD (fun a z => .inl z) (E.nS i d e (hd i hi)).1
theorem s_ret {e : Expr} {m : M D} {dep eff : List Nat} (h : PE X e (rd F m dep eff)) (hd : ∀ i ∈ dep, i ∉ F.io := by decide) (hnw : F.new = false := by rfl) : PS X (.Return (some e) pos) (rdS F (mRet m)) := PS.mono (ps_ret h) fun Dn σ H ⟨A, ρ, out, E, hm, k⟩ => by
  unfold mRet at hm
  cases q : m ρ with
  | none => rw [q] at hm; cases hm
  | some r =>
    rw [q] at hm
    cases hm
    exact ⟨[], A, ρ, r.1, r.2, E, q, fun v H' P r' => k A σ v H' P.env (.plain hnw (r'.out P.env hd))⟩
theorem s_retN (hnw : F.new = false := by rfl) : PS X (.Return none pos) (rdS F (fun ρ => some (.rt .none ρ))) := PS.mono ps_retN fun Dn σ H ⟨A, ρ, out, E, hm, k⟩ => by
  cases hm
  exact k A σ .non H E (.plain hnw .non)
def mDrop (m : M D) : MS := fun ρ => (m ρ).map fun r => .nx r.2
theorem s_expr {e : Expr} {m : M D} {dep eff : List Nat} (h : PE X e (rd F m dep eff)) (hs : swapsWith e none pos.line X.env = pure false := by rfl) : PS X (.Expr e pos) (rdS F (mDrop m)) := PS.mono (ps_expr h hs) fun Dn σ H ⟨A, ρ, out, E, hm, k⟩ => by
  unfold mDrop at hm
  cases q : m ρ with
  | none => rw [q] at hm; cases hm
  | some r =>
    rw [q] at hm
    cases hm
    exact ⟨[], A, ρ, r.1, r.2, E, q, fun v H' P r' => k A σ H' P.env⟩
def mIfS (c : M Bool) (m1 m2 : MS) : MS := fun ρ => match c ρ with
  | some (true, ρ1) => m1 ρ1
  | some (false, ρ1) => m2 ρ1
  | none => none
theorem s_if {c : Expr} {a b : List Stmt} {mc : M Bool} {eff : List Nat} {m1 m2 : MS} (hc : PT X c (rdT F mc eff)) (ha : PSs X a (rdS F m1)) (hb : PSs X b (rdS F m2)) : PS X (.If c a b pos) (rdS F (mIfS mc m1 m2)) := PS.mono (ps_if hc ha hb) fun Dn σ H ⟨A, ρ, out, E, hm, k⟩ => by
  unfold mIfS at hm
  split at hm
  · rename_i ρ1 e1
    refine ⟨[], A, ρ, true, ρ1, E, e1, fun H' P => ?_⟩
    simp only [if_true]
    exact ⟨A, ρ1, out, P.env, hm, k⟩
  · rename_i ρ1 e1
    refine ⟨[], A, ρ, false, ρ1, E, e1, fun H' P => ?_⟩
    simp only [Bool.false_eq_true, if_false]
    exact ⟨A, ρ1, out, P.env, hm, k⟩
  · cases hm
/-- a target that takes plain data -/
def rdG (F : Frm) (B : List Addr) (m : D → Rho → Option Rho) : TG := fun v σ H Q => ∃ A ρ d ρ', Ev F B A σ H ρ ∧ RelD F.K (Av F B A ρ) H v d ∧ m d ρ = some ρ' ∧ ∀ σ' H', Ev F B A σ' H' ρ' → Gro (fun _ => False) H H' → Q σ' H'
def gSet (i : Nat) : D → Rho → Option Rho := fun d ρ => if i < ρ.length then some (ρ.set i (some (false, d))) else none
theorem PG.mono {e : Expr} {t t' : TG} (h : PG X e t) (hm : ∀ v σ H Q, t' v σ H Q → t v σ H Q) : PG X e t' := ⟨fun pins s σ H v u Q I r q => h.run pins s σ H v u Q I r (hm v σ H Q q)⟩
theorem g_name {B : List Addr} {i : Nat} {x : Str} (hN : X.N.Nodup) (hi : X.N[i]? = some x) (hx : Loc X.env.scope x) (hio : i ∉ F.io) (hf : X.fn x = true ∨ X.env.scope.names.lookup x = some .local := by first | exact .inl rfl | exact .inr rfl | assumption) : PG X (.Name x pos) (rdG F B (gSet i)) :=
  PG.mono (pg_name hN hi hx hf) fun v σ H Q ⟨A, ρ, d, ρ', E, r, hm, k⟩ => by
    unfold gSet at hm
    split at hm
    · rename_i hl
      cases hm
      exact k _ H (E.setPlain hio hl r) (Gro.refl _)
    · cases hm
def mAsg (m : M D) (g : D → Rho → Option Rho) : MS := fun ρ => match m ρ with
  | some (d, ρ1) => (g d ρ1).map .nx
  | none => none
theorem s_asg {tg e : Expr} {m : M D} {g : D → Rho → Option Rho} {eff : List Nat} (he : PE X e (rd F m [] eff)) (hg : PG X tg (rdG F [] g)) (hs : swapsWithSole [tg] e pos.line X.env = pure false := by rfl) (hw : swappedStores [tg] e X.env = pure none := by rfl)
    (h1 : (assignEach [tg] X.env).map (·.2) = [assign tg X.env] := by rfl) : PS X (.Assign [tg] e pos) (rdS F (mAsg m g)) := PS.mono (ps_asg he hg hs hw h1) fun Dn σ H ⟨A, ρ, out, E, hm, k⟩ => by
  unfold mAsg at hm
  cases q : m ρ with
  | none => rw [q] at hm; cases hm
  | some r =>
    rw [q] at hm
    obtain ⟨d, ρ1⟩ := r
    cases q2 : g d ρ1 with
    | none => simp only [q2] at hm; cases hm
    | some ρ2 =>
      simp only [q2] at hm
      cases hm
      exact ⟨[], A, ρ, d, ρ1, E, q, fun v H' P r' => ⟨A, ρ1, d, ρ2, P.env, r'.plain, q2, fun σ' H2 E2 _ => k A σ' H2 E2⟩⟩

/-! ### new things -/
def rdN (F : Frm) (m : M D) (eff : List Nat) : TE := fun σ H Q => ∃ B A ρ d ρ', Ev F B A σ H ρ ∧ m ρ = some (d, ρ') ∧ ∀ p H', Post F B A σ H ρ eff H' ρ' → Ev F (p :: B) A σ H' ρ' → p ∉ B → RelO F.K (Av F (p :: B) A ρ') H' p d → Q (.ref p) H'
theorem x_new {e : Expr} {m : M D} {eff : List Nat} (h : PE X e (rdN F m eff)) : PE X e (rd F m [] eff) := PE.mono h fun σ H Q ⟨B, A, ρ, d, ρ', E, hm, k⟩ =>
  ⟨B, A, ρ, d, ρ', E, hm, fun p H' P E' hp r => k (.ref p) H' P (.inl (r.relD (fun a z => by
    rcases z with z | z | z
    · exact .inl z
    · exact .inr (.inl (List.mem_cons_of_mem _ z))
    · exact .inr (.inr z)) (fun z => by
    obtain ⟨hn, h0, hS⟩ := E'.occB p List.mem_cons_self
    rcases z with z | z | ⟨j, e, q, z⟩
    · exact hS z
    · exact hp z
    · by_cases hj : j ∈ F.io
      · exact (E'.ios j hj).2.2.1 (z ▸ List.mem_cons_self)
      · exact (E'.nS j e q hj).2.1 (z ▸ List.mem_cons_self))))⟩
def gOwn (i : Nat) : D → Rho → Option Rho := fun d ρ => if i < ρ.length then some (ρ.set i (some (true, d))) else none
theorem s_own {i : Nat} {x : Str} {e : Expr} {m : M D} {eff : List Nat} {pos' : Pos} (hN : X.N.Nodup) (hi : X.N[i]? = some x) (hx : Loc X.env.scope x) (hio : i ∉ F.io) (he : PE X e (rdN F m eff)) (hs : swapsWith e (some (.Name x pos')) pos.line X.env = pure false := by rfl) (hf : X.fn x = true ∨ X.env.scope.names.lookup x = some .local := by first | exact .inl rfl | exact .inr rfl | assumption) :
    PS X (.Assign [.Name x pos'] e pos) (rdS F (mAsg m (gOwn i))) := PS.mono (ps_set hN hi hx he hs hf) fun Dn σ H ⟨A, ρ, out, E, hm, k⟩ => by
  unfold mAsg at hm
  cases q : m ρ with
  | none => rw [q] at hm; cases hm
  | some r =>
    rw [q] at hm
    obtain ⟨d, ρ1⟩ := r
    unfold gOwn at hm
    by_cases hl : i < ρ1.length
    · simp only [if_pos hl] at hm
      cases hm
      exact ⟨[], A, ρ, d, ρ1, E, q, fun p H' P E' hp r' => k _ _ H' (E'.setOwn hio hl r' hp)⟩
    · simp only [if_neg hl] at hm
      cases hm
/-- a fresh thing laid at p behind an expression -/
theorem rdN_lay {B : List Addr} {A : Nat → Addr} {σ : L2.St} {H H1 : Hp} {ρ ρ1 : Rho} {eff : List Nat} {d : D} {Q : VK} (P : Post F B A σ H ρ eff H1 ρ1) (k : ∀ p H', Post F B A σ H ρ eff H' ρ1 → Ev F (p :: B) A σ H' ρ1 → p ∉ B → RelO F.K (Av F (p :: B) A ρ1) H' p d → Q (.ref p) H')
    {p : Addr} {H' : Hp} (hp : H1 p = none) (g : Ext H1 H') (r : RelO F.K (Av F (p :: B) A ρ1) H' p d) : Q (.ref p) H' :=
  k p H' (P.ext g) (P.env.hide hp g r.some) (fun z => (P.env.occB p z).1 hp) r
theorem av_cons {B : List Addr} {A : Nat → Addr} {ρ : Rho} {p : Addr} : ∀ a, Av F (p :: B) A ρ a → Av F B A ρ a ∨ a = p := fun a z => by
  rcases z with z | z | z
  · exact .inl (.inl z)
  · rcases List.mem_cons.mp z with z | z
    · exact .inr z
    · exact .inl (.inr (.inl z))
  · exact .inl (.inr (.inr z))
theorem x_lstN {es : List Expr} {m : M (List D)} {eff : List Nat} (h : PE X (.List es pos) (tLst (rdA F m [] eff))) : PE X (.List es pos) (rdN F (mApp gLstD m) eff) := by
  refine PE.mono h fun σ H Q ⟨B, A, ρ, d, ρ1, E, hm, k⟩ => ?_
  obtain ⟨ds, e1, e2⟩ := mApp_some hm
  unfold gLstD at e2
  split at e2
  · rename_i hl
    cases e2
    refine ⟨B, A, ρ, ds, ρ1, E, e1, fun vs H1 P1 r1 => ?_⟩
    have r := Val.plains r1
    refine ⟨by rw [r.length]; exact hl, fun q hq => ?_⟩
    exact rdN_lay P1 k hq (Ext.new hq) ⟨vs, upd_same, (r.away hq av_cons).ext (Ext.new hq)⟩
  · cases e2
theorem x_dicN {pos : Pos} : PE X (.Dict [] [] pos) (rdN F (mC (.dict [])) []) := by
  refine PE.mono pe_dnewK fun σ H Q ⟨B, A, ρ, d, ρ1, E, hm, k⟩ => ?_
  cases hm
  exact fun q hq => rdN_lay (Post.refl E) k hq (Ext.new hq) (.inl ⟨[], upd_same, .nil⟩)
/-- a call that makes a new thing -/
def rcallN (K : PySem.W.Frag) (g : List D → Option D) : List V → Hp → VK → Prop := fun xs H Q => ∃ S ds d, Paired (RR K S H) xs ds ∧ g ds = some d ∧ ∀ p H' S', H p = none → Ext H H' → (∀ a, S' a → S a ∨ a = p) → (RelO K S' H' p d → Q (.ref p) H')
theorem c_listN (hc : X.calm = true) {K : PySem.W.Frag} (hK : X.K = K := by rfl) : CallR X (.type "list") (fun xs H Q => ∃ S ds d, Paired (RR K S H) xs ds ∧ gListOf ds = some d ∧ ∀ p H', H p = none → Ext H H' → (∀ S' : Addr → Prop, (∀ a, S' a → S a ∨ a = p) → RelO K S' H' p d) → Q (.ref p) H') := by
  subst hK
  intro pins s σ H xs us Q I r ⟨S, ds, d, hr, e, k⟩
  unfold gListOf at e
  split at e
  · cases e
    obtain ⟨v, rfl, r1⟩ := prs1 hr
    obtain ⟨a, ys, rfl, h1, q1⟩ := r1.list
    exact call_list_of pins s σ H _ us Q I r ⟨a, ys, rfl, .inl h1, fun p hp => k p _ hp (Ext.new hp) fun S' hs => ⟨ys, upd_same, (q1.away hp hs).ext (Ext.new hp)⟩⟩
  · cases e
    obtain ⟨v, rfl, r1⟩ := prs1 hr
    obtain ⟨a, ys, rfl, h1, q1⟩ := r1.tuple
    exact call_list_of pins s σ H _ us Q I r ⟨a, ys, rfl, .inr h1, fun p hp => k p _ hp (Ext.new hp) fun S' hs => ⟨ys, upd_same, (q1.away hp hs).ext (Ext.new hp)⟩⟩
  · split at e
    · cases e
    rename_i hnT
    cases e
    obtain ⟨v, rfl, r1⟩ := prs1 hr
    obtain ⟨a, ys, rfl, h1, q1⟩ := r1.dict (Bool.eq_false_iff.mpr hnT)
    exact call_listD hc pins s σ H _ us Q I r ⟨a, ys, rfl, h1, fun p hp => k p _ hp (Ext.new hp) fun S' hs => ⟨_, upd_same, (q1.keys.away hp hs).ext (Ext.new hp)⟩⟩
  · cases e
theorem x_callTyN {p : Pos} {x : Str} {T : String} {e : Expr} {es : List Expr} {g : List D → Option D} {m : M (List D)} {dep eff : List Nat} (hc : CallR X (.type T) (fun xs H Q => ∃ S ds d, Paired (RR F.K S H) xs ds ∧ g ds = some d ∧ ∀ p H', H p = none → Ext H H' → (∀ S' : Addr → Prop, (∀ a, S' a → S a ∨ a = p) → RelO F.K S' H' p d) → Q (.ref p) H')) (hg : Gl X x) (hm : X.mg x = none) (hv : bootBuiltins x = some (.type T)) (ha : PA X (e :: es) (rdA F m dep eff)) (hn : x ≠ "__name__" := by decide) (hdb : (x == ("__debug__" : Str)) = false := by decide)
    (he : starEach (e :: es) X.env = (false, eval e X.env) :: starEach es X.env := by rfl) (hpl : (backTo pos (starEach es X.env)).any (·.1) = false := by rfl) : PE X (.Call (.Name x p) (e :: es) [] pos) (rdN F (mApp g m) eff) :=
  PE.mono (pe_callTy hc hg hm hv ha hn hdb he hpl) fun σ H Q ⟨B, A, ρ, d, ρ1, E, hm, k⟩ => by
    obtain ⟨ds, e1, e2⟩ := mApp_some hm
    exact ⟨B, A, ρ, ds, ρ1, E, e1, fun vs H1 P1 r1 => ⟨Av F B A ρ1, ds, d, Val.rrs P1.env r1, e2, fun p H' hp g' r => rdN_lay P1 k hp g' (r _ av_cons)⟩⟩

/-! ### list.append, list.pop, a subscript stored -/
def mMut (i : Nat) (g : D → D → Option (D × D)) (m : M D) : M D := fun ρ => match ρ[i]? with
  | some (some (true, o)) => (match m ρ with
    | some (d, ρ1) => (match g o d with
      | some (r, o') => some (r, ρ1.set i (some (true, o')))
      | none => none)
    | none => none)
  | _ => none
theorem mMut_some {i : Nat} {g : D → D → Option (D × D)} {m : M D} {ρ ρ2 : Rho} {r : D} (h : mMut i g m ρ = some (r, ρ2)) : ∃ d ρ1 o o', ρ[i]? = some (some (true, o)) ∧ m ρ = some (d, ρ1) ∧ g o d = some (r, o') ∧ ρ2 = ρ1.set i (some (true, o')) := by
  unfold mMut at h
  split at h
  · rename_i o e2
    split at h
    · rename_i d ρ1 e1
      split at h
      · rename_i r' o' e3
        cases h
        exact ⟨d, ρ1, o, o', e2, e1, e3, rfl⟩
      · cases h
    · cases h
  · cases h
def gApp : D → D → Option (D × D)
  | .list ds, d => if ds.length < sizeLine then some (.none, .list (ds ++ [d])) else none
  | _, _ => none
theorem x_append {i : Nat} {x : Str} {e : Expr} {m : M D} {eff : List Nat} {apos cpos xp : Pos} (hN : X.N[i]? = some x) (hv : Vis X.env.scope x) (he : PE X e (rd F m [] eff)) (hne : i ∉ eff := by decide) (hK : X.K = F.K := by rfl)
    (hd : (x == ("__debug__" : Str)) = false := by decide) (hcd : (x == ("__classdict__" : Str)) = false := by decide) 
    (hbase : attributeBase (.Name x xp) "append" X.env (eval (.Name x xp) X.env) = eval (.Name x xp) X.env := by rfl)
    (hfew : ((backTo cpos (starEach [e] X.env)).all (fun x => !x.1) && (backToKw cpos (keywordEach [] X.env)).all (fun x => x.1.isSome)
      && decide (([e] : List Expr).length + ([] : List Keyword).length + (if ([] : List Keyword).isEmpty then 0 else 1) < 30)) = true := by rfl)
    (hline : (apos.endLine == cpos.line) = true := by rfl) (hs : starEach [e] X.env = (false, eval e X.env) :: starEach [] X.env := by rfl) (hplain : (backTo cpos (starEach [] X.env)).any (·.1) = false := by rfl) :
    PE X (.Call (.Attribute (.Name x xp) "append" apos) [e] [] cpos) (rd F (mMut i gApp m) [] (eff ++ [i])) := by
  refine PE.mono (pe_bm PySem.F.plainAttrs_list PySem.F.slot_list_append PySem.F.type_list_append mt_append (pe_var hN hv hd hcd) (pa_cons he pa_nil hs) hbase hfew hline hs hplain) fun σ H Q ⟨B, A, ρ, r, ρ2, E, hm, k⟩ => ?_
  obtain ⟨d, ρ1, o, o', e2, e1, e3, rfl⟩ := mMut_some hm
  have hl : ∃ ds, o = .list ds ∧ ds.length < sizeLine ∧ r = .none ∧ o' = .list (ds ++ [d]) := by
    unfold gApp at e3
    split at e3
    · rename_i ds d'
      split at e3
      · rename_i hz
        cases e3
        exact ⟨_, rfl, hz, rfl, rfl⟩
      · cases e3
    · cases e3
  obtain ⟨ds, rfl, hz, rfl, rfl⟩ := hl
  obtain ⟨h1, xs, h2, h3⟩ := E.own i _ e2
  refine ⟨_, h1, .inl ⟨rfl, xs, SqL.of h2⟩, B, A, ρ, d, ρ1, E, e1, fun v H1 P1 r1 => ?_⟩
  have e4 : ρ1[i]? = some (some (true, .list ds)) := by rw [P1.lv.keep i hne]; exact e2
  obtain ⟨_, ys, g2, g3⟩ := P1.env.own i _ e4
  have G : Gro (fun b => b = A i) H1 (upd H1 (A i) (.lst (ys ++ [v]))) := Gro.upd g2 fun ps z => nomatch z
  have hC : ∀ a, a = A i → Av F B A ρ1 a := fun a h => .inr (.inr ⟨i, _, e4, h⟩)
  refine ⟨A i, ys, v, rfl, rfl, g2, by rw [g3.length]; exact hz, ?_⟩
  exact k .non _ (P1.write e4 G ⟨_, upd_same, (g3.append (.cons r1.plain .nil)).mono G (fun _ z => z) hC⟩) (.inl .non)
def gPopAt : D → D → Option (D × D)
  | .list ds, .int i => if -(2 ^ 63) ≤ i ∧ i < 2 ^ 63 then (match seqIndex? i ds.length with
    | some k => (match ds[k]? with
      | some d => some (d, .list (ds.eraseIdx k))
      | none => none)
    | none => none) else none
  | _, _ => none
theorem RelDs.eraseIdx {K : PySem.W.Frag} {S : Addr → Prop} {H : Hp} : ∀ {xs : List V} {ds : List D} (i : Nat), RelDs K S H xs ds → RelDs K S H (xs.eraseIdx i) (ds.eraseIdx i)
  | _, _, _, .nil => .nil
  | _, _, 0, .cons _ t => t
  | _, _, i + 1, .cons r t => .cons r (RelDs.eraseIdx i t)
theorem x_popAt {i : Nat} {x : Str} {e : Expr} {m : M D} {dep eff : List Nat} {apos cpos xp : Pos} (hN : X.N[i]? = some x) (hv : Vis X.env.scope x) (he : PE X e (rd F m dep eff)) (hne : i ∉ eff := by decide) (hK : X.K = F.K := by rfl)
    (hd : (x == ("__debug__" : Str)) = false := by decide) (hcd : (x == ("__classdict__" : Str)) = false := by decide)
    (hbase : attributeBase (.Name x xp) "pop" X.env (eval (.Name x xp) X.env) = eval (.Name x xp) X.env := by rfl)
    (hfew : ((backTo cpos (starEach [e] X.env)).all (fun x => !x.1) && (backToKw cpos (keywordEach [] X.env)).all (fun x => x.1.isSome)
      && decide (([e] : List Expr).length + ([] : List Keyword).length + (if ([] : List Keyword).isEmpty then 0 else 1) < 30)) = true := by rfl)
    (hline : (apos.endLine == cpos.line) = true := by rfl) (hs : starEach [e] X.env = (false, eval e X.env) :: starEach [] X.env := by rfl) (hplain : (backTo cpos (starEach [] X.env)).any (·.1) = false := by rfl) :
    PE X (.Call (.Attribute (.Name x xp) "pop" apos) [e] [] cpos) (rd F (mMut i gPopAt m) [] (eff ++ [i])) := by
  refine PE.mono (pe_bm PySem.F.plainAttrs_list PySem.F.slot_list_pop PySem.F.type_list_pop mt_popAt (pe_var hN hv hd hcd) (pa_cons he pa_nil hs) hbase hfew hline hs hplain) fun σ H Q ⟨B, A, ρ, r, ρ2, E, hm, k⟩ => ?_
  obtain ⟨d, ρ1, o, o', e2, e1, e3, rfl⟩ := mMut_some hm
  have hl : ∃ ds z j, o = .list ds ∧ d = .int z ∧ -(2 ^ 63) ≤ z ∧ z < 2 ^ 63 ∧ seqIndex? z ds.length = some j ∧ ds[j]? = some r ∧ o' = .list (ds.eraseIdx j) := by
    unfold gPopAt at e3
    split at e3
    · rename_i ds z
      split at e3
      · rename_i hz
        split at e3
        · rename_i j ej
          split at e3
          · rename_i d' ed
            cases e3
            exact ⟨ds, z, j, rfl, rfl, hz.1, hz.2, ej, ed, rfl⟩
          · cases e3
        · cases e3
      · cases e3
    · cases e3
  obtain ⟨ds, z, j, rfl, rfl, hz1, hz2, hj, hr, rfl⟩ := hl
  obtain ⟨h1, xs, h2, h3⟩ := E.own i _ e2
  refine ⟨_, h1, .inl ⟨rfl, xs, SqL.of h2⟩, B, A, ρ, .int z, ρ1, E, e1, fun v H1 P1 r1 => ?_⟩
  have e4 : ρ1[i]? = some (some (true, .list ds)) := by rw [P1.lv.keep i hne]; exact e2
  obtain ⟨_, ys, g2, g3⟩ := P1.env.own i _ e4
  obtain ⟨y, hy, ry⟩ := g3.get hr
  have G : Gro (fun b => b = A i) H1 (upd H1 (A i) (.lst (ys.eraseIdx j))) := Gro.upd g2 fun ps z => nomatch z
  have hC : ∀ a, a = A i → Av F B A ρ1 a := fun a h => .inr (.inr ⟨i, _, e4, h⟩)
  have hv : v = .int z := (r1.rr P1.env).int
  subst hv
  refine ⟨A i, ys, z, j, y, rfl, rfl, g2, hz1, hz2, by rw [g3.length]; exact hj, hy, ?_⟩
  have P2 := P1.write (d' := .list (ds.eraseIdx j)) e4 G ⟨_, upd_same, (g3.eraseIdx j).mono G (fun _ z => z) hC⟩
  exact k y _ P2 (.inl (ry.mono G (fun a z => by
    rcases z with z | z | ⟨q, e', h, z⟩
    · exact .inl z
    · exact .inr (.inl z)
    · rcases own_set h with ⟨hij, _⟩ | ⟨_, h⟩
      · exact .inr (.inr ⟨q, _, hij ▸ e4, z⟩)
      · exact .inr (.inr ⟨q, e', h, z⟩)) hC))

/-! ### a subscript stored: the thing in slot i -/
/-- o[k] = d -/
def gPut : D → D → D → Option D
  | .list ds, .int k, d => (ixN ds.length k).map fun j => .list (ds.set j d)
  | .dict kvs, kd, d => (keyD kd).bind fun k => if isT kvs = false ∧ kvs.length < sizeLine then some (.dict (dput kvs k d)) else none
  | _, _, _ => none
where dput (kvs : List (D × D)) (k : Key) (d : D) : List (D × D) := if (dget kvs k).isSome then kvs.map (fun e => if keyD e.1 = some k then (e.1, d) else e) else kvs ++ [(kD k, d)]
theorem RelKs.append {K : PySem.W.Frag} {S : Addr → Prop} {H : Hp} : ∀ {xs ys : List (Key × V)} {ds es : List (D × D)}, RelKs K S H xs ds → RelKs K S H ys es → RelKs K S H (xs ++ ys) (ds ++ es)
  | _, _, _, _, .nil, s => s
  | _, _, _, _, .cons r t, s => .cons r (RelKs.append t s)
theorem RelKs.mapPut {K : PySem.W.Frag} {S : Addr → Prop} {H : Hp} {k : Key} {v : V} {d : D} (r : RelD K S H v d) : ∀ {xs : List (Key × V)} {ds : List (D × D)}, RelKs K S H xs ds →
    RelKs K S H (xs.map fun kv => if kv.1 = k then (kv.1, v) else kv) (ds.map fun e => if keyD e.1 = some k then (e.1, d) else e)
  | _, _, .nil => .nil
  | _, _, .cons (k := k0) (v := v0) (d := d0) q t => by
    rw [List.map_cons, List.map_cons]
    have e : keyD (kD k0) = some k0 := keyD_kD k0
    by_cases h : k0 = k
    · rw [if_pos h, if_pos (by rw [e, h])]
      exact .cons r (RelKs.mapPut r t)
    · rw [if_neg h, if_neg (by rw [e]; exact fun z => h (Option.some.inj z))]
      exact .cons q (RelKs.mapPut r t)
theorem RelKs.put {K : PySem.W.Frag} {S : Addr → Prop} {H : Hp} {k : Key} {v : V} {d : D} (r : RelD K S H v d) {xs : List (Key × V)} {ds : List (D × D)} (q : RelKs K S H xs ds) : RelKs K S H (putK xs k v) (gPut.dput ds k d) := by
  unfold putK gPut.dput
  have e : (xs.any fun kv => decide (kv.1 = k)) = (PD.dget ds k).isSome := by
    rw [valV_any]
    rcases q.valV k with ⟨e1, e2⟩ | ⟨w, d', e1, e2, _⟩ <;> rw [e1, e2] <;> rfl
  rw [e]
  cases (PD.dget ds k).isSome with
  | true => exact RelKs.mapPut r q
  | false => exact RelKs.append q (.cons r .nil)
/-- the tracked heap behind it -/
theorem put_ok {A : Nat → Addr} {σ : L2.St} {B : List Addr} {H : Hp} {ρ : Rho} {i : Nat} {o kd d o' : D} {kv v : V} (E : Ev F B A σ H ρ) (e : ρ[i]? = some (some (true, o))) (hg : gPut o kd d = some o') (rk : RR F.K (Av F B A ρ) H kv kd) (rv : RelD F.K (Av F B A ρ) H v d) :
    (∃ xs k j, H (A i) = some (.lst xs) ∧ kv = .int k ∧ ixN xs.length k = some j ∧ Gro (fun b => b = A i) H (upd H (A i) (.lst (xs.set j v))) ∧ RelO F.K (Av F B A ρ) (upd H (A i) (.lst (xs.set j v))) (A i) o') ∨
    ∃ kvs k, H (A i) = some (.dK kvs) ∧ kv = kV k ∧ kvs.length < sizeLine ∧ Gro (fun b => b = A i) H (upd H (A i) (.dK (putK kvs k v))) ∧ RelO F.K (Av F B A ρ) (upd H (A i) (.dK (putK kvs k v))) (A i) o' := by
  have hC : ∀ a, a = A i → Av F B A ρ a := fun a h => .inr (.inr ⟨i, _, e, h⟩)
  obtain ⟨_, r⟩ := E.own i _ e
  cases o with
  | list ds =>
    obtain ⟨xs, h1, h2⟩ := r
    cases kd with
    | int k =>
      have hg : ((ixN ds.length k).map fun j => PyData.list (ds.set j d)) = some o' := hg
      cases q : ixN ds.length k with
      | none => rw [q] at hg; cases hg
      | some j =>
        rw [q] at hg
        cases hg
        have G : Gro (fun b => b = A i) H (upd H (A i) (.lst (xs.set j v))) := Gro.upd h1 fun ps z => nomatch z
        exact .inl ⟨xs, k, j, h1, rk.int, by rw [h2.length]; exact q, G, _, upd_same, (RelDs.set rv j h2).mono G (fun _ z => z) hC⟩
    | _ => cases hg
  | dict kvs =>
    have hg : ((keyD kd).bind fun k => if isT kvs = false ∧ kvs.length < sizeLine then some (PyData.dict (gPut.dput kvs k d)) else none) = some o' := hg
    cases q : keyD kd with
    | none => rw [q] at hg; cases hg
    | some k =>
      rw [q] at hg
      have e1 := keyD_some q
      have hg3 : (if isT kvs = false ∧ kvs.length < sizeLine then some (PyData.dict (gPut.dput kvs k d)) else none) = some o' := hg
      subst e1
      split at hg3
      · rename_i hz
        cases hg3
        rcases r with ⟨xs, h1, h2⟩ | ⟨_, _, hT⟩
        rotate_left
        · have := hz.1
          rw [hT.isT] at this
          cases this
        have hz := hz.2
        have G : Gro (fun b => b = A i) H (upd H (A i) (.dK (putK xs k v))) := Gro.upd h1 fun ps z => nomatch z
        exact .inr ⟨xs, k, h1, rk.key, by rw [h2.length]; exact hz, G, .inl ⟨_, upd_same, (RelKs.put rv h2).mono G (fun _ z => z) hC⟩⟩
      · cases hg3
  | _ => exact r.elim
/-- name[k] = value: the value, then the subscript -/
def mPut (i : Nat) (mk mv : M D) : MS := fun ρ => match mv ρ with
  | some (d, ρ1) => (match ρ1[i]? with
    | some (some (true, o)) => (match mk ρ1 with
      | some (kd, ρ2) => (match gPut o kd d with
        | some o' => some (.nx (ρ2.set i (some (true, o'))))
        | none => none)
      | none => none)
    | _ => none)
  | none => none
theorem s_put {i : Nat} {x : Str} {k value : Expr} {mk mv : M D} {depk effk effv : List Nat} {xp pos' : Pos} (hu : X.A.units + 1 < cLine) (hN : X.N[i]? = some x) (hv : Vis X.env.scope x) (hk : PE X k (rd F mk depk effk)) (hval : PE X value (rd F mv [] effv)) (hne : i ∉ effk := by decide)
    (hs : swapsWith value (some (.Subscript (.Name x xp) k pos')) pos.line X.env = pure false := by rfl) (hd : (x == ("__debug__" : Str)) = false := by decide) (hcd : (x == ("__classdict__" : Str)) = false := by decide) :
    PS X (.Assign [.Subscript (.Name x xp) k pos'] value pos) (rdS F (mPut i mk mv)) := by
  refine ⟨fun pins s σ H Dn I ⟨A, ρ, out, E, hm, kk⟩ => ?_⟩
  unfold mPut at hm
  split at hm
  · rename_i d ρ1 e1
    split at hm
    · rename_i o e2
      split at hm
      · rename_i kd ρ2 e3
        split at hm
        · rename_i o' e4
          cases hm
          refine wpAny_Assign_Subscript (thn (hval.run pins s σ H (fun v H1 => Post F [] A σ H ρ effv H1 ρ1 ∧ Val F [] A ρ1 H1 [] v d) I ⟨[], A, ρ, d, ρ1, E, e1, fun v H1 P r => ⟨P, r⟩⟩) fun r s1 ⟨v, H1, I1, rv, P1, r1⟩ => ?_) hs
          obtain ⟨h1, h2⟩ := P1.env.own i o e2
          refine thn ((pe_var (pos := xp) hN hv hd hcd).run pins s1 σ H1 (fun w H2 => w = .ref (A i) ∧ H2 = H1) I1 ⟨_, h1, rfl, rfl⟩) fun u s2 ⟨x, H2, I2, rx, q1, q2⟩ => ?_
          subst q1 q2
          cases rx
          refine thn (hk.run pins s2 σ H2 (fun w H3 => Post F [] A σ H2 ρ1 effk H3 ρ2 ∧ Val F [] A ρ2 H3 depk w kd) I2 ⟨[], A, ρ1, kd, ρ2, P1.env, e3, fun v H1 P r => ⟨P, r⟩⟩) fun iv s3 ⟨y, H3, I3, ry, P2, r2⟩ => ?_
          have e5 : ρ2[i]? = some (some (true, o)) := by rw [P2.lv.keep i hne]; exact e2
          have rv' := (r1.later P2.gro P2.lv (by simp)).plain
          rcases put_ok P2.env e5 e4 (r2.rr P2.env) rv' with ⟨xs, z, j, g1, g2, g3, G, R⟩ | ⟨kvs, z, g1, g2, g3, G, R⟩
          · exact thn (set_list pins s3 σ H3 (.ref (A i)) y v (.ref (A i)) iv r (fun H4 => Dn.nx σ H4) I3 rfl ry rv ⟨A i, xs, z, j, rfl, g2, g1, g3, kk A σ _ (P2.write e5 G R).env⟩) fun _ s4 ⟨H4, I4, q⟩ => ⟨σ, H4, I4, q⟩
          · subst g2
            exact d_setItem hu I3 (.inl ⟨kvs, z, g1, rfl, g3, rfl⟩) ry rv fun s4 I4 => ⟨σ, _, I4, kk A σ _ (P2.write e5 G R).env⟩
        · cases hm
      · cases hm
    · cases hm
  · cases hm
/-- name op= e on a slot of plain data -/
def mAug (i : Nat) (g : D → D → Option D) (m : M D) : MS := fun ρ => match ρ[i]? with
  | some (some (false, x)) => (match m ρ with
    | some (d, ρ1) => (match g x d with
      | some r => if i < ρ1.length then some (.nx (ρ1.set i (some (false, r)))) else none
      | none => none)
    | none => none)
  | _ => none
def gAddI : D → D → Option D
  | .int a, .int b => some (.int (a + b))
  | _, _ => none
def gSubI : D → D → Option D
  | .int a, .int b => some (.int (a - b))
  | _, _ => none
def rip (K : PySem.W.Frag) (g : D → D → Option D) : TIp := fun x y H Q => ∃ S d1 d2 d, RR K S H x d1 ∧ RR K S H y d2 ∧ g d1 d2 = some d ∧ ∀ v, (∀ S', RelD K S' H v d) → Q v H
theorem i_add {K : PySem.W.Frag} : PIp X .Add (rip K gAddI) := by
  intro pins s σ H x y v u Q I rx ry ⟨S, d1, d2, d, r1, r2, e, k⟩
  unfold gAddI at e
  split at e
  · cases e
    exact ip_add pins s σ H x y v u Q I rx ry ⟨_, _, r1.int, r2.int, k _ fun _ => .int _⟩
  · cases e
theorem i_sub {K : PySem.W.Frag} : PIp X .Sub (rip K gSubI) := by
  intro pins s σ H x y v u Q I rx ry ⟨S, d1, d2, d, r1, r2, e, k⟩
  unfold gSubI at e
  split at e
  · cases e
    exact ip_sub pins s σ H x y v u Q I rx ry ⟨_, _, r1.int, r2.int, k _ fun _ => .int _⟩
  · cases e
theorem s_aug {i : Nat} {x : Str} {e : Expr} {m : M D} {dep eff : List Nat} {op : Operator} {g : D → D → Option D} {pos' : Pos} (hN : X.N.Nodup) (hi : X.N[i]? = some x) (hx : Loc X.env.scope x) (hio : i ∉ F.io) (he : PE X e (rd F m dep eff)) (ho : PIp X op (rip F.K g)) (hne : i ∉ eff := by decide) (hf : X.fn x = true ∨ X.env.scope.names.lookup x = some .local := by first | exact .inl rfl | exact .inr rfl | assumption) :
    PS X (.AugAssign (.Name x pos') op e pos) (rdS F (mAug i g m)) := PS.mono (ps_aug hN hi hx he ho hf) fun Dn σ H ⟨A, ρ, out, E, hm, k⟩ => by
  unfold mAug at hm
  split at hm
  · rename_i x0 e0
    split at hm
    · rename_i d ρ1 e1
      split at hm
      · rename_i r e2
        split at hm
        · rename_i hl
          cases hm
          obtain ⟨w, h1, h2⟩ := E.plain i _ e0
          refine ⟨w, h1, [], A, ρ, d, ρ1, E, e1, fun v H1 P r1 => ?_⟩
          have r0 := (Val.later (dep := []) (.inl h2) P.gro P.lv (by simp)).plain
          exact ⟨Av F [] A ρ1, x0, d, r, .inl r0, r1.rr P.env, e2, fun z hz => k A _ H1 (P.env.setPlain hio hl (hz _))⟩
        · cases hm
      · cases hm
    · cases hm
  · cases hm
/-- name[k] op= e on an owned list -/
def mAugS (i : Nat) (g : D → D → Option D) (mk me : M D) : MS := fun ρ => match ρ[i]? with
  | some (some (true, o)) => (match mk ρ with
    | some (kd, ρ1) => (match gIx o kd with
      | some x => (match me ρ1 with
        | some (d, ρ2) => (match g x d with
          | some r => (match gPut o kd r with
            | some o' => some (.nx (ρ2.set i (some (true, o'))))
            | none => none)
          | none => none)
        | none => none)
      | none => none)
    | none => none)
  | _ => none
end
end PD

set_option Elab.async false
set_option linter.all false
set_option maxRecDepth 100000
set_option maxHeartbeats 2000000
/-! PDg: what is walked, loops, comprehensions, generator expressions. -/
namespace PD
open PySem PySem.Spec PyProof.Rows L2 GxR GenX
/-- .. with more roots -/
abbrev Frm.more (F : Frm) (G : List (V × D)) : Frm := { F with G := G ++ F.G }
section
variable {F : Frm} {B : List Addr} {A : Nat → Addr} {σ : L2.St} {H H' : Hp} {ρ : Rho} {G : List (V × D)}
theorem Ev.less (E : Ev (F.more G) B A σ H ρ) : Ev F B A σ H ρ := ⟨E.len, E.plain, E.own, E.inj, E.nS, E.ios, E.occ, E.occB, E.chg, E.tabs, fun r hr => E.roots r (List.mem_append_right _ hr)⟩
theorem Ev.more (E : Ev F B A σ H ρ) (h : ∀ r ∈ G, RelD F.K (Av F B A ρ) H r.1 r.2) : Ev (F.more G) B A σ H ρ := ⟨E.len, E.plain, E.own, E.inj, E.nS, E.ios, E.occ, E.occB, E.chg, E.tabs, fun r hr => (List.mem_append.mp hr).elim (h r) (E.roots r)⟩
theorem Ev.rootsG (E : Ev (F.more G) B A σ H ρ) : ∀ r ∈ G, RelD F.K (Av F B A ρ) H r.1 r.2 := fun r hr => E.roots r (List.mem_append_left _ hr)
theorem Post.less {eff : List Nat} {ρ' : Rho} {H0 : Hp} {ρ0 : Rho} (P : Post (F.more G) B A σ H ρ eff H' ρ') : Post F B A σ H ρ eff H' ρ' := ⟨P.env.less, P.gro, P.lv⟩
end
/-- it walks ds while the roots G hold -/
structure ItOk (K : PySem.W.Frag) (J : It) (ds : List D) (G : List (V × D)) : Prop where
  goes : ∀ i S H, (∀ r ∈ G, RelD K S H r.1 r.2) → i < ds.length → J.go i H
  stops : ∀ S H, (∀ r ∈ G, RelD K S H r.1 r.2) → J.stop ds.length H
  yields : ∀ i S H x H', (∀ r ∈ G, RelD K S H r.1 r.2) → (∀ a, S a → H a ≠ none) → i < ds.length → J.yld i H x H' → Ext H H' ∧ ∃ d, ds[i]? = some d ∧ RelD K S H' x d
def rdI (F : Frm) (m : M (List D)) (eff : List Nat) : TI := fun σ H R => ∃ B A ρ ds ρ', Ev F B A σ H ρ ∧ m ρ = some (ds, ρ') ∧ ∀ J G H', Post F B A σ H ρ eff H' ρ' → (∀ r ∈ G, RelD F.K (Av F B A ρ') H' r.1 r.2) → ItOk F.K J ds G → R J H'
section
variable {K : PySem.W.Frag}
theorem it_list {a : Addr} {ds : List D} : ItOk K (Itl K a) ds [(.ref a, .list ds)] := by
  have h : ∀ S H, RelD K S H (.ref a) (.list ds) → ∃ xs, SqL K H a xs ∧ RelDs K S H xs ds := fun S H r => by
    obtain ⟨b, xs, e, q, rr⟩ := RR.list (.inl r)
    cases e
    exact ⟨xs, q, rr⟩
  refine ⟨fun i S H r hi => ?_, fun S H r => ?_, fun i S H x H' r _ hi y => ?_⟩
  · obtain ⟨xs, q, rr⟩ := h S H (r _ List.mem_cons_self)
    have hl := rr.length
    exact ⟨xs, xs[i]'(by omega), q, by simp [show i < xs.length by omega]⟩
  · obtain ⟨xs, q, rr⟩ := h S H (r _ List.mem_cons_self)
    exact ⟨xs, q, Nat.le_of_eq rr.length⟩
  · obtain ⟨xs, q, rr⟩ := h S H (r _ List.mem_cons_self)
    obtain ⟨e, y⟩ := y
    subst e
    obtain ⟨d, e1, e2⟩ := rr.getV (y xs q)
    exact ⟨Ext.refl _, d, e1, e2⟩
theorem it_tup {a : Addr} {ds : List D} : ItOk K (Itt K a) ds [(.ref a, .tuple ds)] := by
  have h : ∀ S H, RelD K S H (.ref a) (.tuple ds) → ∃ xs, SqT K H a xs ∧ RelDs K S H xs ds := fun S H r => by
    obtain ⟨b, xs, e, q, rr⟩ := RR.tuple (.inl r)
    cases e
    exact ⟨xs, q, rr⟩
  refine ⟨fun i S H r hi => ?_, fun S H r => ?_, fun i S H x H' r _ hi y => ?_⟩
  · obtain ⟨xs, q, rr⟩ := h S H (r _ List.mem_cons_self)
    have hl := rr.length
    exact ⟨xs, xs[i]'(by omega), q, by simp [show i < xs.length by omega]⟩
  · obtain ⟨xs, q, rr⟩ := h S H (r _ List.mem_cons_self)
    exact ⟨xs, q, Nat.le_of_eq rr.length⟩
  · obtain ⟨xs, q, rr⟩ := h S H (r _ List.mem_cons_self)
    obtain ⟨e, y⟩ := y
    subst e
    obtain ⟨d, e1, e2⟩ := rr.getV (y xs q)
    exact ⟨Ext.refl _, d, e1, e2⟩
/-- lo, lo + 1, .. (n of them) -/
def rangeD (lo : Int) (n : Nat) : List D := (List.range n).map fun i => .int (lo + (i : Nat))
theorem rangeD_len (lo : Int) (n : Nat) : (rangeD lo n).length = n := by unfold rangeD; simp
theorem rangeD_get {lo : Int} {n i : Nat} (h : i < n) : (rangeD lo n)[i]? = some (.int (lo + (i : Nat))) := by unfold rangeD; simp [h]
theorem it_rng {lo : Int} {n : Nat} : ItOk K (Itr lo n) (rangeD lo n) [] := by
  refine ⟨fun i S H r hi => by rw [rangeD_len] at hi; exact hi, fun S H r => by rw [rangeD_len]; exact Nat.le_refl _, fun i S H x H' r _ hi y => ?_⟩
  rw [rangeD_len] at hi
  obtain ⟨e, y⟩ := y
  subst e y
  exact ⟨Ext.refl _, _, rangeD_get hi, .int _⟩
end
section
variable {X : Cx} {F : Frm} {pos p : Pos} {tg : Expr}
theorem PI.mono {e : Expr} {t t' : TI} (h : PI X tg e t) (hm : ∀ σ H R, t' σ H R → t σ H R) : PI X tg e t' := ⟨fun pins s σ H R I q => h.run pins s σ H R I (hm σ H R q)⟩
/-- the items of a list or of a tuple -/
def gItems : D → Option (List D)
  | .list ds => some ds
  | .tuple ds => some ds
  | _ => none
def mItems (m : M D) : M (List D) := fun ρ => match m ρ with
  | some (d, ρ1) => (match gItems d with
    | some ds => some (ds, ρ1)
    | none => none)
  | none => none
theorem w_seq {e : Expr} {m : M D} {eff : List Nat} (he : PE X e (rd F m [] eff)) (hK : X.K = F.K := by rfl) : PI X tg e (rdI F (mItems m) eff) := by
  refine ⟨fun pins s σ H R I ⟨B, A, ρ, ds, ρ', E, hm, k⟩ => ?_⟩
  unfold mItems at hm
  split at hm
  · rename_i d ρ1 e1
    split at hm
    · rename_i ds' e2
      cases hm
      cases d with
      | list ds0 =>
        cases e2
        refine (pi_list he).run pins s σ H R I ⟨B, A, ρ, .list ds, ρ', E, e1, fun v H' P r => ?_⟩
        have r' := r.plain
        obtain ⟨a, xs, rfl, h1, h2⟩ := RR.list (.inl r')
        exact ⟨a, rfl, ⟨xs, by rw [hK]; exact h1⟩, by rw [hK]; exact k _ [(.ref a, .list ds)] H' P (fun r hr => by rw [List.mem_singleton.mp hr]; exact r') it_list⟩
      | tuple ds0 =>
        cases e2
        refine (pi_tup he).run pins s σ H R I ⟨B, A, ρ, .tuple ds, ρ', E, e1, fun v H' P r => ?_⟩
        have r' := r.plain
        obtain ⟨a, xs, rfl, h1, h2⟩ := RR.tuple (.inl r')
        exact ⟨a, rfl, ⟨xs, by rw [hK]; exact h1⟩, by rw [hK]; exact k _ [(.ref a, .tuple ds)] H' P (fun r hr => by rw [List.mem_singleton.mp hr]; exact r') it_tup⟩
      | _ => cases e2
    · cases hm
  · cases hm
def gRange1 : List D → Option (List D)
  | [.int n] => if -(2 ^ 62) ≤ n ∧ n < 2 ^ 62 then some (rangeD 0 n.toNat) else none
  | _ => none
def gRange2 : List D → Option (List D)
  | [.int a, .int b] => if -(2 ^ 62) ≤ a ∧ a < 2 ^ 62 ∧ -(2 ^ 62) ≤ b ∧ b < 2 ^ 62 then some (rangeD a (b - a).toNat) else none
  | _ => none
def mRange (g : List D → Option (List D)) (m : M (List D)) : M (List D) := fun ρ => match m ρ with
  | some (ds, ρ1) => (match g ds with
    | some r => some (r, ρ1)
    | none => none)
  | none => none
theorem mRange_some {g : List D → Option (List D)} {m : M (List D)} {ρ ρ' : Rho} {ds : List D} (hm : mRange g m ρ = some (ds, ρ')) : ∃ l, m ρ = some (l, ρ') ∧ g l = some ds := by
  unfold mRange at hm
  split at hm
  · rename_i l ρ1 q
    split at hm
    · rename_i r q2
      cases hm
      exact ⟨l, q, q2⟩
    · cases hm
  · cases hm
theorem w_range1 {a : Expr} {m : M (List D)} {dep eff : List Nat} (hg : Gl X "range") (hm : X.mg "range" = none) (ha : PA X [a] (rdA F m dep eff)) (hs : starEach [a] X.env = [(false, eval a X.env)] := by rfl) : PI X tg (.Call (.Name "range" p) [a] [] pos) (rdI F (mRange gRange1 m) eff) := by
  refine PI.mono (pi_range1 hg hm ha hs) fun σ H R ⟨B, A, ρ, ds, ρ', E, hm, k⟩ => ?_
  obtain ⟨l, q, q2⟩ := mRange_some hm
  refine ⟨B, A, ρ, l, ρ', E, q, fun vs H1 P1 r1 => ?_⟩
  have rs := Val.rrs P1.env r1
  unfold gRange1 at q2
  split at q2
  · rename_i n
    split at q2
    · rename_i hz
      cases q2
      obtain ⟨v, rfl, r2⟩ := prs1 rs
      exact ⟨n, by rw [r2.int], hz.1, hz.2, k _ [] H1 P1 (fun r hr => absurd hr (by simp)) it_rng⟩
    · cases q2
  · cases q2
theorem w_range2 {a b : Expr} {m : M (List D)} {dep eff : List Nat} (hg : Gl X "range") (hm : X.mg "range" = none) (ha : PA X [a, b] (rdA F m dep eff)) (hs : starEach [a, b] X.env = [(false, eval a X.env), (false, eval b X.env)] := by rfl) (hs2 : starEach [b] X.env = [(false, eval b X.env)] := by rfl) : PI X tg (.Call (.Name "range" p) [a, b] [] pos) (rdI F (mRange gRange2 m) eff) := by
  refine PI.mono (pi_range2 hg hm ha hs hs2) fun σ H R ⟨B, A, ρ, ds, ρ', E, hm, k⟩ => ?_
  obtain ⟨l, q, q2⟩ := mRange_some hm
  refine ⟨B, A, ρ, l, ρ', E, q, fun vs H1 P1 r1 => ?_⟩
  have rs := Val.rrs P1.env r1
  unfold gRange2 at q2
  split at q2
  · rename_i i j
    split at q2
    · rename_i hz
      cases q2
      obtain ⟨v, w, rfl, r2, r3⟩ := prs2 rs
      exact ⟨i, j, by rw [r2.int, r3.int], hz, k _ [] H1 P1 (fun r hr => absurd hr (by simp)) it_rng⟩
    · cases q2
  · cases q2
/-! ### for -/
def mForL (g : D → Rho → Option Rho) (mb : MS) : List D → MS
  | [] => fun ρ => some (.nx ρ)
  | d :: r => fun ρ => match g d ρ with
    | none => none
    | some ρ1 => (match mb ρ1 with
      | some (.nx ρ2) => mForL g mb r ρ2
      | some (.ct ρ2) => mForL g mb r ρ2
      | some (.bk ρ2) => some (.nx ρ2)
      | some (.rt v ρ2) => some (.rt v ρ2)
      | none => none)
def mFor (mi : M (List D)) (g : D → Rho → Option Rho) (mb : MS) : MS := fun ρ => match mi ρ with
  | some (ds, ρ1) => mForL g mb ds ρ1
  | none => none
theorem drop_cons' {α : Type} {l : List α} {i : Nat} {d : α} (h : l[i]? = some d) : l.drop i = d :: l.drop (i + 1) := by
  obtain ⟨hi, e⟩ := List.getElem?_eq_some_iff.mp h
  rw [List.drop_eq_getElem_cons hi, e]
def gE (F : Frm) (B : List Addr) (g : D → Rho → Option Rho) : TG := fun v σ H Q => ∃ G, rdG (F.more G) B g v σ H Q
def sE (F : Frm) (m : MS) : TS := fun Dn σ H => ∃ G, rdS (F.more G) m Dn σ H
theorem PG.ex {B : List Addr} {g : D → Rho → Option Rho} (h : ∀ G, PG X tg (rdG (F.more G) B g)) : PG X tg (gE F B g) := ⟨fun pins s σ H v u Q I r ⟨G, q⟩ => (h G).run pins s σ H v u Q I r q⟩
theorem PSs.ex {st : List Stmt} {m : MS} (h : ∀ G, PSs X st (rdS (F.more G) m)) : PSs X st (sE F m) := ⟨fun pins s σ H Dn I ⟨G, q⟩ => (h G).run pins s σ H Dn I q⟩
theorem s_for {iter : Expr} {body : List Stmt} {mi : M (List D)} {eff : List Nat} {g : D → Rho → Option Rho} {mb : MS} (hp : PassesOwn (model X.prog X.w) X.A X.env X.xe) (hc : X.calm = true) (hi : PI X tg iter (rdI F mi eff))
    (hg : ∀ G, PG X tg (rdG (F.more G) [] g)) (hb : ∀ G, PSs X body (rdS (F.more G) mb)) (hs : ∀ x, foldedSetIterable iter X.env x = pure x := by intro _; rfl) : PS X (.For tg iter body [] pos) (rdS F (mFor mi g mb)) := by
  refine PS.mono (ps_for hp hc hi (PG.ex hg) (PSs.ex hb) hs) fun Dn σ H ⟨A, ρ, out, E, hm, k⟩ => ?_
  unfold mFor at hm
  split at hm
  · rename_i ds ρ1 e1
    refine ⟨[], A, ρ, ds, ρ1, E, e1, fun J G H1 P1 hG it => ?_⟩
    refine ⟨fun i m σ H => m = ds.length - i ∧ i ≤ ds.length ∧ ∃ A ρ out, Ev (F.more G) [] A σ H ρ ∧ mForL g mb (ds.drop i) ρ = some out ∧ Done F Dn out, ⟨ds.length, by simp, Nat.zero_le _, A, ρ1, out, P1.env.more hG, by rw [List.drop_zero]; exact hm, k⟩, ?_⟩
    rintro i m σ H ⟨rfl, hi, A, ρ, out, E, hm, k⟩
    by_cases hlt : i < ds.length
    · refine .inr ⟨it.goes i _ H E.rootsG hlt, fun σ' H' => ∃ A ρ out, Ev (F.more G) [] A σ' H' ρ ∧ mForL g mb (ds.drop (i + 1)) ρ = some out ∧ Done F Dn out, fun σ' H' q => ⟨ds.length - (i + 1), by omega, rfl, hlt, q⟩, fun x H' y => ?_⟩
      obtain ⟨ext, d, ed, rd⟩ := it.yields i _ H x H' E.rootsG E.less.occA hlt y
      rw [drop_cons' ed] at hm
      unfold mForL at hm
      split at hm
      · cases hm
      · rename_i ρ2 e2
        refine ⟨G, A, ρ, d, ρ2, E.ext ext, rd, e2, fun σ2 H2 E2 _ => ?_⟩
        split at hm
        · rename_i ρ3 e3
          exact ⟨G, A, ρ2, .nx ρ3, E2, e3, fun A' σ' H' E' => ⟨A', ρ3, out, E', hm, k⟩⟩
        · rename_i ρ3 e3
          exact ⟨G, A, ρ2, .ct ρ3, E2, e3, fun A' σ' H' E' => ⟨A', ρ3, out, E', hm, k⟩⟩
        · rename_i ρ3 e3
          cases hm
          exact ⟨G, A, ρ2, .bk ρ3, E2, e3, fun A' σ' H' E' => k A' σ' H' E'.less⟩
        · rename_i v ρ3 e3
          cases hm
          exact ⟨G, A, ρ2, .rt v ρ3, E2, e3, fun A' σ' w H' E' r => k A' σ' w H' E'.less r⟩
        · cases hm
    · have e : i = ds.length := by omega
      subst e
      rw [List.drop_length] at hm
      cases hm
      exact .inl ⟨it.stops _ H E.rootsG, k A σ H E.less⟩
  · cases hm
/-! ### comprehensions -/
def wipeR (ρ : Rho) : List Nat → Rho
  | [] => ρ
  | v :: vs => (wipeR ρ vs).set v none
theorem wipeR_length (ρ : Rho) : ∀ vs, (wipeR ρ vs).length = ρ.length
  | [] => rfl
  | v :: vs => by unfold wipeR; rw [List.length_set, wipeR_length ρ vs]
theorem wipeR_some {ρ : Rho} {i : Nat} {z : Bool × D} : ∀ {vs : List Nat}, (wipeR ρ vs)[i]? = some (some z) → ρ[i]? = some (some z) ∧ i ∉ vs
  | [], h => ⟨h, by simp⟩
  | v :: vs, h => by
    unfold wipeR at h
    rw [get_set] at h
    by_cases hi : v = i
    · rw [if_pos hi] at h
      split at h <;> cases h
    · rw [if_neg hi] at h
      obtain ⟨h1, h2⟩ := wipeR_some h
      exact ⟨h1, by simp only [List.mem_cons, not_or]; exact ⟨fun e => hi e.symm, h2⟩⟩
theorem wipeR_ne {ρ : Rho} {i : Nat} : ∀ {vs : List Nat}, i ∉ vs → (wipeR ρ vs)[i]? = ρ[i]?
  | [], _ => rfl
  | v :: vs, h => by
    unfold wipeR
    rw [get_set, if_neg (fun e => h (by rw [e]; simp))]
    exact wipeR_ne fun z => h (List.mem_cons_of_mem _ z)
theorem wipe_ne {σ : L2.St} {i : Nat} : ∀ {vs : List Nat}, i ∉ vs → (wipe σ vs)[i]? = σ[i]?
  | [], _ => rfl
  | v :: vs, h => by
    unfold wipe
    rw [List.getElem?_set, if_neg (fun e => h (by rw [e]; simp))]
    exact wipe_ne fun z => h (List.mem_cons_of_mem _ z)
/-- slots forgotten; what σ holds there is nothing to us -/
theorem Ev.wipe {B : List Addr} {A : Nat → Addr} {σ σ' : L2.St} {H : Hp} {ρ : Rho} {vs : List Nat} (E : Ev F B A σ H ρ) (hl : σ'.length = σ.length) (hσ : ∀ i, i ∉ vs → σ'[i]? = σ[i]?) (hv : ∀ i ∈ vs, i ∉ F.io) : Ev F B A σ' H (wipeR ρ vs) := by
  have hav : ∀ a, Av F B A (wipeR ρ vs) a → Av F B A ρ a := fun a h => by
    rcases h with h | h | ⟨j, e, h, z⟩
    · exact .inl h
    · exact .inr (.inl h)
    · exact .inr (.inr ⟨j, e, (wipeR_some h).1, z⟩)
  refine ⟨by rw [wipeR_length, hl]; exact E.len, fun i d h => ?_, fun i d h => ?_, fun i j d e h1 h2 => E.inj i j d e (wipeR_some h1).1 (wipeR_some h2).1, fun i d h => E.nS i d (wipeR_some h).1, fun i hi => ?_, E.occ, E.occB, E.chg, E.tabs, fun r hr => (E.roots r hr).mono (C := fun _ => False) (Gro.refl _) hav fun _ z => z.elim⟩
  · obtain ⟨h1, h2⟩ := wipeR_some h
    obtain ⟨v, g1, g2⟩ := E.plain i d h1
    exact ⟨v, by rw [hσ i h2]; exact g1, g2.mono (C := fun _ => False) (Gro.refl _) hav fun _ z => z.elim⟩
  · obtain ⟨h1, h2⟩ := wipeR_some h
    obtain ⟨g1, g2⟩ := E.own i d h1
    exact ⟨by rw [hσ i h2]; exact g1, g2.mono (C := fun _ => False) (Gro.refl _) hav (fun _ z => z.elim) id⟩
  · obtain ⟨h1, h2, h3, e, h4⟩ := E.ios i hi
    exact ⟨h1, h2, h3, e, by rw [wipeR_ne (fun z => hv i z hi)]; exact h4⟩
theorem wipe_eq {σ σ2 : L2.St} {vs : List Nat} (h : L2.wipe σ2 vs = L2.wipe σ vs) : σ2.length = σ.length ∧ ∀ i, i ∉ vs → σ2[i]? = σ[i]? := by
  refine ⟨by rw [← wipe_length σ2 vs, h, wipe_length], fun i hi => ?_⟩
  rw [← wipe_ne (σ := σ2) hi, h, wipe_ne hi]
theorem wipe_in {σ : L2.St} {i : Nat} : ∀ {vs : List Nat}, i ∈ vs → (L2.wipe σ vs)[i]? = if i < σ.length then some none else none
  | v :: vs, h => by
    unfold L2.wipe
    rw [List.getElem?_set, wipe_length]
    by_cases hv : v = i
    · subst hv
      rw [if_pos rfl]
    · rw [if_neg hv]
      exact wipe_in ((List.mem_cons.mp h).resolve_left fun e => hv e.symm)
theorem wipe_set {σ : L2.St} {i : Nat} {z : Option V} {vs : List Nat} (h : i ∈ vs) : L2.wipe (σ.set i z) vs = L2.wipe σ vs := by
  apply List.ext_getElem?
  intro j
  by_cases hj : j ∈ vs
  · rw [wipe_in hj, wipe_in hj, List.length_set]
  · rw [wipe_ne hj, wipe_ne hj, List.getElem?_set, if_neg (show ¬ i = j from fun e => hj (e ▸ h))]
/-- a target within a block: its slots are among vs -/
def rdW (F : Frm) (vs : List Nat) (m : D → Rho → Option Rho) : TG := fun v σ H Q => ∃ B A ρ d ρ', Ev F B A σ H ρ ∧ RelD F.K (Av F B A ρ) H v d ∧ m d ρ = some ρ' ∧ ∀ σ' H', Ev F B A σ' H' ρ' → Gro (fun _ => False) H H' → L2.wipe σ' vs = L2.wipe σ vs → Lv vs ρ ρ' → Q σ' H'
theorem gSet_lv {i : Nat} {vs : List Nat} (h : i ∈ vs) {d : D} {ρ ρ' : Rho} (e : gSet i d ρ = some ρ') : Lv vs ρ ρ' := by
  unfold gSet at e
  split at e
  · cases e
    refine ⟨fun j hj => by rw [get_set, if_neg (show ¬ i = j from fun z => hj (z ▸ h))], fun j e' q => ?_⟩
    rcases own_set q with ⟨_, q⟩ | ⟨_, q⟩
    · cases q
    · exact ⟨e', q⟩
  · cases e
theorem g_nameW {i : Nat} {x : Str} {vs : List Nat} (hN : X.N.Nodup) (hi : X.N[i]? = some x) (hx : Loc X.env.scope x) (hio : i ∉ F.io) (hvs : i ∈ vs := by decide) (hf : X.fn x = true ∨ X.env.scope.names.lookup x = some .local := by first | exact .inl rfl | exact .inr rfl | assumption) : PG X (.Name x pos) (rdW F vs (gSet i)) :=
  PG.mono (pg_name hN hi hx hf) fun v σ H Q ⟨B, A, ρ, d, ρ', E, r, hm, k⟩ => by
    have L := gSet_lv hvs hm
    unfold gSet at hm
    split at hm
    · rename_i hl
      cases hm
      exact k _ H (E.setPlain hio hl r) (Gro.refl _) (wipe_set hvs) L
    · cases hm
def mYes : M Bool := fun ρ => some (true, ρ)
theorem PTs.mono {ifs : List Expr} {t t' : TT} (h : PTs X ifs t) (hm : ∀ σ H Q, t' σ H Q → t σ H Q) : PTs X ifs t' := ⟨fun pins s σ H Q I q => h.run pins s σ H Q I (hm σ H Q q)⟩
theorem ts_nil : PTs X [] (rdT F mYes []) := PTs.mono pts_nil fun σ H Q ⟨B, A, ρ, b, ρ', E, hm, k⟩ => by
  cases hm
  exact k H (Post.refl E)
theorem ts_one {c : Expr} {m : M Bool} {eff : List Nat} (h : PT X c (rdT F m eff)) : PTs X [c] (rdT F m eff) := pts_one h
/-- a hidden thing is written -/
theorem Ev.writeB {B : List Addr} {A : Nat → Addr} {σ : L2.St} {H H' : Hp} {ρ : Rho} {b : Addr} (E : Ev F B A σ H ρ) (hb : b ∈ B) (g : Gro (fun a => a = b) H H') : Ev F B A σ H' ρ := by
  have hC : ∀ a, a = b → Av F B A ρ a := fun a h => .inr (.inl (h ▸ hb))
  have hA : ∀ {i : Nat} {d : D}, ρ[i]? = some (some (true, d)) → A i ≠ b := fun {i d} h z => by
    by_cases hi : i ∈ F.io
    · exact (E.ios i hi).2.2.1 (z ▸ hb)
    · exact (E.nS i d h hi).2.1 (z ▸ hb)
  exact ⟨E.len, fun i d e => let ⟨v, h1, h2⟩ := E.plain i d e; ⟨v, h1, h2.mono g (fun _ z => z) hC⟩, fun i d e => let ⟨h1, h2⟩ := E.own i d e; ⟨h1, h2.mono g (fun _ z => z) hC (hA e)⟩, E.inj, E.nS, E.ios, fun a h => g.live a (E.occ a h), fun c hc => ⟨g.live c (E.occB c hc).1, (E.occB c hc).2⟩,
    ⟨fun a o e n t => g.keep a o (E.chg.keep a o e n t) (fun z => by
      have h0 := (E.occB b hb).2.1
      rw [z, h0] at e
      cases e) t, fun P t => g.tabs P (E.chg.tabs P t), fun a n => g.live a (E.chg.live a n)⟩, fun P hP => g.tabs P (E.tabs P hP), fun r hr => (E.roots r hr).mono g (fun _ z => z) hC⟩
def lcL (g : D → Rho → Option Rho) (mt : M Bool) (me : M D) (vs : List Nat) : List D → List D → Rho → Option (List D × Rho)
  | [], acc, ρ => some (acc, ρ)
  | d :: r, acc, ρ => match g d ρ with
    | none => none
    | some ρ1 => (match mt ρ1 with
      | some (true, ρ2) => (match me ρ2 with
        | some (y, ρ3) => if acc.length < sizeLine then lcL g mt me vs r (acc ++ [y]) (wipeR ρ3 vs) else none
        | none => none)
      | some (false, ρ2) => lcL g mt me vs r acc (wipeR ρ2 vs)
      | none => none)
def mLc (mi : M (List D)) (g : D → Rho → Option Rho) (mt : M Bool) (me : M D) (vs : List Nat) : M D := fun ρ => match mi ρ with
  | some (ds, ρ1) => (match lcL g mt me vs ds [] (wipeR ρ1 vs) with
    | some (acc, ρ2) => some (.list acc, wipeR ρ2 vs)
    | none => none)
  | none => none
def wE (F : Frm) (vs : List Nat) (g : D → Rho → Option Rho) : TG := fun v σ H Q => ∃ G, rdW (F.more G) vs g v σ H Q
def tE (F : Frm) (m : M Bool) (eff : List Nat) : TT := fun σ H Q => ∃ G, rdT (F.more G) m eff σ H Q
def eE (F : Frm) (m : M D) (dep eff : List Nat) : TE := fun σ H Q => ∃ G, rd (F.more G) m dep eff σ H Q
theorem PG.exW {vs : List Nat} {g : D → Rho → Option Rho} (h : ∀ G, PG X tg (rdW (F.more G) vs g)) : PG X tg (wE F vs g) := ⟨fun pins s σ H v u Q I r ⟨G, q⟩ => (h G).run pins s σ H v u Q I r q⟩
theorem PTs.ex {ifs : List Expr} {m : M Bool} {eff : List Nat} (h : ∀ G, PTs X ifs (rdT (F.more G) m eff)) : PTs X ifs (tE F m eff) := ⟨fun pins s σ H Q I ⟨G, q⟩ => (h G).run pins s σ H Q I q⟩
theorem PE.ex {e : Expr} {m : M D} {dep eff : List Nat} (h : ∀ G, PE X e (rd (F.more G) m dep eff)) : PE X e (eE F m dep eff) := ⟨fun pins s σ H Q I ⟨G, q⟩ => (h G).run pins s σ H Q I q⟩
theorem wipeR_lv {ρ : Rho} {vs : List Nat} : Lv vs ρ (wipeR ρ vs) := ⟨fun i hi => wipeR_ne hi, fun i d h => ⟨d, (wipeR_some h).1⟩⟩
theorem Lv.more {e1 e2 : List Nat} {ρ ρ' : Rho} (h : Lv e1 ρ ρ') (hs : ∀ i ∈ e1, i ∈ e2) : Lv e2 ρ ρ' := ⟨fun i hi => h.keep i fun z => hi (hs i z), h.own⟩
theorem Lv.trans' {e : List Nat} {ρ ρ1 ρ2 : Rho} (a : Lv e ρ ρ1) (b : Lv e ρ1 ρ2) : Lv e ρ ρ2 := (a.trans b).more fun i hi => (List.mem_append.mp hi).elim id id
theorem wipe_wipe {σ : L2.St} {vs : List Nat} : L2.wipe (L2.wipe σ vs) vs = L2.wipe σ vs := by
  apply List.ext_getElem?
  intro j
  by_cases hj : j ∈ vs
  · rw [wipe_in hj, wipe_in hj, wipe_length]
  · rw [wipe_ne hj]
theorem Ev.notOw {B : List Addr} {A : Nat → Addr} {σ : L2.St} {H : Hp} {ρ : Rho} {b : Addr} (E : Ev F B A σ H ρ) (hb : b ∈ B) : ¬ Ow A ρ b := fun ⟨i, d, h, z⟩ => by
  by_cases hi : i ∈ F.io
  · exact (E.ios i hi).2.2.1 (z ▸ hb)
  · exact (E.nS i d h hi).2.1 (z ▸ hb)
theorem Gro.fresh {C : Addr → Prop} {H H1 H2 : Hp} {b : Addr} (g : Gro C H H1) (hb : H b = none) (w : Gro (fun a => a = b) H1 H2) : Gro C H H2 :=
  ⟨fun a o e n t => w.keep a o (g.keep a o e n t) (fun z => by rw [z, hb] at e; cases e) t, fun P t => w.tabs P (g.tabs P t), fun a n => w.live a (g.live a n)⟩
theorem Gro.back {C : Addr → Prop} {H H1 : Hp} {b : Addr} (g : Gro C H H1) (hb : H1 b = none) : H b = none := by
  cases q : H b with
  | none => rfl
  | some o => exact absurd hb (g.live b (by rw [q]; simp))
theorem wipeR_av {B : List Addr} {A : Nat → Addr} {ρ : Rho} {vs : List Nat} : ∀ a, Av F B A (wipeR ρ vs) a → Av F B A ρ a := fun a z => (wipeR_lv (vs := vs)).av z
theorem rd_lc {mi : M (List D)} {g : D → Rho → Option Rho} {mt : M Bool} {me : M D} {effi efft effe vs : List Nat} (hv : ∀ i ∈ vs, i ∉ F.io) {σ : L2.St} {H : Hp} {Q : VK} (h : rdN F (mLc mi g mt me vs) (effi ++ (vs ++ (efft ++ effe))) σ H Q) :
    tLc (rdI F mi effi) (wE F vs g) (tE F mt efft) (eE F me [] effe) vs σ H Q := by
  obtain ⟨B, A, ρ, d, ρ', E, hm, k⟩ := h
  unfold mLc at hm
  split at hm
  · rename_i ds ρ1 e1
    split at hm
    · rename_i res ρ2 e2
      cases hm
      refine ⟨B, A, ρ, ds, ρ1, E, e1, fun J G H1 P1 hG it D hD => ?_⟩
      have Elay : Ev F (D :: B) A σ (upd H1 D (.lst [])) ρ1 := P1.env.hide hD (Ext.new hD) (by rw [upd_same]; simp)
      have ew : ∀ i, i ∉ vs → (L2.wipe σ vs)[i]? = σ[i]? := fun i h => wipe_ne h
      have E0 : Ev (F.more G) (D :: B) A (L2.wipe σ vs) (upd H1 D (.lst [])) (wipeR ρ1 vs) := by
        refine Ev.more ((Elay).wipe (wipe_length σ vs) ew hv) fun r hr => ?_
        refine ((hG r hr).away hD av_cons).ext (Ext.new hD) |>.mono (C := fun _ => False) (Gro.refl _) (fun a z => ?_) fun _ z => z.elim
        rcases z with z | z | ⟨j, e, h, z⟩
        · exact .inl z
        · exact .inr (.inl z)
        · exact .inr (.inr ⟨j, e, (wipeR_some h).1, z⟩)
      refine ⟨fun i m Hc => m = ds.length - i ∧ i ≤ ds.length ∧ ∃ acc xs ρc, Ev (F.more G) (D :: B) A (L2.wipe σ vs) Hc ρc ∧ Hc D = some (.lst xs) ∧ RelDs F.K (Av F (D :: B) A ρc) Hc xs acc ∧ Gro (Ow A ρ) H Hc ∧ Lv (effi ++ (vs ++ (efft ++ effe))) ρ ρc ∧ lcL g mt me vs (ds.drop i) acc ρc = some (res, ρ2),
        ⟨ds.length, by simp, Nat.zero_le _, [], [], wipeR ρ1 vs, E0, upd_same, .nil, P1.gro.trans (Ext.new hD).gro, (P1.lv.more fun i h => List.mem_append_left _ h).trans' (wipeR_lv.more fun i h => List.mem_append_right _ (List.mem_append_left _ h)), by rw [List.drop_zero]; exact e2⟩, ?_⟩
      rintro i m Hc ⟨rfl, hi, acc, xs, ρc, Ec, hDc, rc, gc, lc, hm⟩
      by_cases hlt : i < ds.length
      · refine .inr ⟨it.goes i _ Hc Ec.rootsG hlt, fun H' => ∃ acc xs ρc, Ev (F.more G) (D :: B) A (L2.wipe σ vs) H' ρc ∧ H' D = some (.lst xs) ∧ RelDs F.K (Av F (D :: B) A ρc) H' xs acc ∧ Gro (Ow A ρ) H H' ∧ Lv (effi ++ (vs ++ (efft ++ effe))) ρ ρc ∧ lcL g mt me vs (ds.drop (i + 1)) acc ρc = some (res, ρ2), fun H' q => ⟨ds.length - (i + 1), by omega, rfl, hlt, q⟩, fun x H' y => ?_⟩
        obtain ⟨ext, d, ed, rd⟩ := it.yields i _ Hc x H' Ec.rootsG Ec.less.occA hlt y
        rw [drop_cons' ed] at hm
        unfold lcL at hm
        split at hm
        · cases hm
        · rename_i ρg eg
          refine ⟨G, D :: B, A, ρc, d, ρg, Ec.ext ext, rd, eg, fun σ2 H2 E2 g2 hw l2 => ⟨by rw [hw, wipe_wipe], ?_⟩⟩
          have hw2 : L2.wipe σ2 vs = L2.wipe σ vs := by rw [hw, wipe_wipe]
          have hD0 : H D = none := P1.gro.back hD
          have hD2 : H2 D = some (.lst xs) := g2.keep _ _ (ext _ _ hDc) (fun z => z) fun ps z => nomatch z
          have ow1 : ∀ a, Ow A ρg a → Ow A ρ a := fun a z => lc.ow (l2.ow z)
          have gro2 : Gro (Ow A ρ) H H2 := gc.trans ((ext.gro).trans (g2.mono fun _ z => z.elim))
          have av1 : ∀ a, Av F (D :: B) A ρg a → Av F (D :: B) A ρc a := fun a z => l2.av z
          have rc2 : RelDs F.K (Av F (D :: B) A ρg) H2 xs acc := ((rc.ext ext).mono g2 (fun a z => z) fun _ z => z.elim).mono (C := fun _ => False) (Gro.refl _) av1 fun _ z => z.elim
          have lg : Lv (effi ++ (vs ++ (efft ++ effe))) ρ ρg := lc.trans' (l2.more fun i h => List.mem_append_right _ (List.mem_append_left _ h))
          split at hm
          · rename_i ρt et
            refine ⟨G, D :: B, A, ρg, true, ρt, E2, et, fun H3 P3 => ?_⟩
            simp only [if_true]
            have hD3 : H3 D = some (.lst xs) := P3.gro.keep _ _ hD2 (E2.notOw List.mem_cons_self) fun ps z => nomatch z
            have rc3 : RelDs F.K (Av F (D :: B) A ρt) H3 xs acc := rc2.mono P3.gro (fun a z => P3.lv.av z) fun a z => .inr (.inr z)
            have lt : Lv (effi ++ (vs ++ (efft ++ effe))) ρ ρt := lg.trans' (P3.lv.more fun i h => List.mem_append_right _ (List.mem_append_right _ (List.mem_append_left _ h)))
            split at hm
            · rename_i yd ρe ee
              split at hm
              · rename_i hz
                refine ⟨G, D :: B, A, ρt, yd, ρe, P3.env, ee, fun yv H4 P4 r4 => ?_⟩
                have hD4 : H4 D = some (.lst xs) := P4.gro.keep _ _ hD3 (P3.env.notOw List.mem_cons_self) fun ps z => nomatch z
                have rc4 : RelDs F.K (Av F (D :: B) A ρe) H4 xs acc := rc3.mono P4.gro (fun a z => P4.lv.av z) fun a z => .inr (.inr z)
                have W : Gro (fun a => a = D) H4 (upd H4 D (.lst (xs ++ [yv]))) := Gro.upd hD4 fun ps z => nomatch z
                have le : Lv (effi ++ (vs ++ (efft ++ effe))) ρ ρe := lt.trans' (P4.lv.more fun i h => List.mem_append_right _ (List.mem_append_right _ (List.mem_append_right _ h)))
                refine ⟨xs, hD4, by rw [rc4.length]; exact hz, acc ++ [yd], xs ++ [yv], wipeR ρe vs, ?_, upd_same, ?_, ?_, le.trans' (wipeR_lv.more fun i h => List.mem_append_right _ (List.mem_append_left _ h)), hm⟩
                · have E5 := (P4.env.writeB List.mem_cons_self W).wipe (σ' := L2.wipe σ2 vs) (vs := vs) (wipe_length _ _) (fun i h => wipe_ne h) hv
                  rw [hw2] at E5
                  exact E5
                · refine RelDs.append ?_ (.cons ?_ .nil)
                  · exact rc4.mono W (fun a z => wipeR_av a z) fun a z => .inr (.inl (z ▸ List.mem_cons_self))
                  · exact r4.plain.mono W (fun a z => wipeR_av (F := F) a z) fun a z => .inr (.inl (z ▸ List.mem_cons_self))
                · exact Gro.fresh (gro2.trans ((P3.gro.mono ow1).trans (P4.gro.mono fun a z => ow1 a (P3.lv.ow z)))) hD0 W
              · cases hm
            · cases hm
          · rename_i ρt et
            refine ⟨G, D :: B, A, ρg, false, ρt, E2, et, fun H3 P3 => ?_⟩
            simp only [Bool.false_eq_true, if_false]
            have hD3 : H3 D = some (.lst xs) := P3.gro.keep _ _ hD2 (E2.notOw List.mem_cons_self) fun ps z => nomatch z
            have rc3 : RelDs F.K (Av F (D :: B) A ρt) H3 xs acc := rc2.mono P3.gro (fun a z => P3.lv.av z) fun a z => .inr (.inr z)
            have lt : Lv (effi ++ (vs ++ (efft ++ effe))) ρ ρt := lg.trans' (P3.lv.more fun i h => List.mem_append_right _ (List.mem_append_right _ (List.mem_append_left _ h)))
            refine ⟨acc, xs, wipeR ρt vs, ?_, hD3, ?_, gro2.trans (P3.gro.mono ow1), lt.trans' (wipeR_lv.more fun i h => List.mem_append_right _ (List.mem_append_left _ h)), hm⟩
            · have E5 := P3.env.wipe (σ' := L2.wipe σ2 vs) (vs := vs) (wipe_length _ _) (fun i h => wipe_ne h) hv
              rw [hw2] at E5
              exact E5
            · exact rc3.mono (C := fun _ => False) (Gro.refl _) (fun a z => wipeR_av a z) fun _ z => z.elim
          · cases hm
      · have e : i = ds.length := by omega
        subst e
        rw [List.drop_length] at hm
        cases hm
        have Eb : Ev F (D :: B) A σ Hc (wipeR ρ2 vs) := Ec.less.wipe (wipe_length σ vs).symm (fun i h => (wipe_ne h).symm) hv
        exact .inl ⟨it.stops _ Hc Ec.rootsG, k D Hc ⟨Eb.unhide, gc, lc.trans' (wipeR_lv.more fun i h => List.mem_append_right _ (List.mem_append_left _ h))⟩ Eb (fun z => (P1.env.occB D z).1 hD) ⟨xs, hDc, rc.mono (C := fun _ => False) (Gro.refl _) (fun a z => wipeR_av a z) fun _ z => z.elim⟩⟩
    · cases hm
  · cases hm
theorem x_lc {elt iter : Expr} {ifs : List Expr} {scope : Scope} {own : List (Str × Nat)} {mi : M (List D)} {g : D → Rho → Option Rho} {mt : M Bool} {me : M D} {effi efft effe : List Nat} (hc : X.calm = true) (hN : X.N.Nodup) (hi : PI X tg iter (rdI F mi effi)) (ok : BlkOk X.N X.env.scope scope own)
    (hg : ∀ (s : Shared) (H : Hp) (C : Addr) (cl : List (Str × Addr)) (fp : List Addr) G, PG (X.blk s H scope (compEnvC scope cl C X.env) fp) tg (rdW (F.more G) (own.map (·.2)) g))
    (ht : ∀ (s : Shared) (H : Hp) (C : Addr) (cl : List (Str × Addr)) (fp : List Addr) G, PTs (X.blk s H scope (compEnvC scope cl C X.env) fp) ifs (rdT (F.more G) mt efft))
    (he : ∀ (s : Shared) (H : Hp) (C : Addr) (cl : List (Str × Addr)) (fp : List Addr) G, PE (X.blk s H scope (compEnvC scope cl C X.env) fp) elt (rd (F.more G) me [] effe))
    (hv : ∀ i ∈ own.map (·.2), i ∉ F.io := by decide) (hs : ∀ x, foldedSetIterable iter X.env x = pure x := by intro _; rfl) :
    PE X (.ListComp elt [⟨tg, iter, ifs, 0⟩] scope pos) (rdN F (mLc mi g mt me (own.map (·.2))) (effi ++ (own.map (·.2) ++ (efft ++ effe)))) :=
  PE.mono (pe_lc hc hN hi ok (fun s H C cl fp => PG.exW (hg s H C cl fp)) (fun s H C cl fp => PTs.ex (ht s H C cl fp)) (fun s H C cl fp => PE.ex (he s H C cl fp)) hs) fun σ H Q h => rd_lc hv h
end
end PD

set_option Elab.async false
set_option linter.all false
set_option maxRecDepth 100000
set_option maxHeartbeats 2000000
/-! PDh: any, all, sum of generator expressions on data. -/
namespace PD
open PySem PySem.Spec PyProof.Rows L2 GxR GenX
def anL (k : Bool) (g : D → Rho → Option Rho) (mt : M Bool) (me : M D) (vs : List Nat) : List D → Rho → Option (Bool × Rho)
  | [], ρ => some (!k, ρ)
  | d :: r, ρ => match g d ρ with
    | none => none
    | some ρ1 => (match mt ρ1 with
      | some (true, ρ2) => (match me ρ2 with
        | some (.bool c, ρ3) => if c = k then some (k, wipeR ρ3 vs) else anL k g mt me vs r (wipeR ρ3 vs)
        | _ => none)
      | some (false, ρ2) => anL k g mt me vs r (wipeR ρ2 vs)
      | none => none)
def mAn (k : Bool) (mi : M (List D)) (g : D → Rho → Option Rho) (mt : M Bool) (me : M D) (vs : List Nat) : M D := fun ρ => match mi ρ with
  | some (ds, ρ1) => (match anL k g mt me vs ds (wipeR ρ1 vs) with
    | some (b, ρ2) => some (.bool b, wipeR ρ2 vs)
    | none => none)
  | none => none
instance (z : Int) : Decidable (InLong z) := inferInstanceAs (Decidable (_ ∧ _))
def suL (g : D → Rho → Option Rho) (mt : M Bool) (me : M D) (vs : List Nat) : List D → Int → Rho → Option (Int × Rho)
  | [], acc, ρ => some (acc, ρ)
  | d :: r, acc, ρ => match g d ρ with
    | none => none
    | some ρ1 => (match mt ρ1 with
      | some (true, ρ2) => (match me ρ2 with
        | some (.int z, ρ3) => if InLong z ∧ InLong (acc + z) then suL g mt me vs r (acc + z) (wipeR ρ3 vs) else none
        | _ => none)
      | some (false, ρ2) => suL g mt me vs r acc (wipeR ρ2 vs)
      | none => none)
def mSu (mi : M (List D)) (g : D → Rho → Option Rho) (mt : M Bool) (me : M D) (vs : List Nat) : M D := fun ρ => match mi ρ with
  | some (ds, ρ1) => (match suL g mt me vs ds 0 (wipeR ρ1 vs) with
    | some (z, ρ2) => some (.int z, wipeR ρ2 vs)
    | none => none)
  | none => none
def uK (k : Bool) (Q : VK) : List V → V → Hp → (Hp → Prop) → Prop := fun _ y H nx => ∃ c, y = .bl c ∧ if c = k then Q (.bl k) H else nx H
section
variable {X : Cx} {F : Frm} {pos p gpos : Pos} {tg : Expr}
/-- the turns, while U asks what it asks of each element -/
theorem gen_an {k : Bool} {mi : M (List D)} {g : D → Rho → Option Rho} {mt : M Bool} {me : M D} {effi efft effe vs : List Nat} {P : Addr} (hP : P ∈ F.T) (hv : ∀ i ∈ vs, i ∉ F.io) {σ : L2.St} {H : Hp} {Q : VK}
    (h : rd F (mAn k mi g mt me vs) [] (effi ++ (vs ++ (efft ++ effe))) σ H Q) : tGen P (rdI F mi effi) (wE F vs g) (tE F mt efft) (eE F me [] effe) vs (uK k Q) (fun _ => Q (.bl (!k))) σ H := by
  obtain ⟨B, A, ρ, d, ρ', E, hm, kq⟩ := h
  unfold mAn at hm
  split at hm
  · rename_i ds ρ1 e1
    split at hm
    · rename_i res ρ2 e2
      cases hm
      refine ⟨B, A, ρ, ds, ρ1, E, e1, fun J G H1 P1 hG it => ⟨P1.env.tabs P hP, fun H3 hT => ?_⟩⟩
      have tg : ∀ {C : Addr → Prop}, Gro C H1 H3 := Gro.tabbed (P1.env.tabs P hP) hT
      have E3 : Ev F B A σ H3 ρ1 := P1.env.quiet tg
      have hwip : ∀ i, i ∉ vs → (L2.wipe σ vs)[i]? = σ[i]? := fun i h => wipe_ne h
      have E0 : Ev (F.more G) B A (L2.wipe σ vs) H3 (wipeR ρ1 vs) :=
        Ev.more (E3.wipe (wipe_length σ vs) hwip hv) fun r hr => ((hG r hr).mono (C := fun _ => False) tg (fun a z => wipeR_av a z) fun _ z => z.elim)
      -- the end, from any slots that agree with σ outside vs
      have fin : ∀ {σ' : L2.St} {Hc : Hp} {ρc : Rho} {b : Bool}, Ev (F.more G) B A σ' Hc ρc → σ'.length = σ.length → (∀ i, i ∉ vs → σ'[i]? = σ[i]?) → Gro (Ow A ρ) H Hc → Lv (effi ++ (vs ++ (efft ++ effe))) ρ ρc → (b, wipeR ρc vs) = (res, wipeR ρ2 vs) → Q (.bl b) Hc := fun {σ' Hc ρc b} Ec hl hσ gc lc he => by
        have h1 : b = res := congrArg Prod.fst he
        have h2 : wipeR ρc vs = wipeR ρ2 vs := congrArg Prod.snd he
        subst h1
        have Eb := Ec.less.wipe (σ' := σ) hl.symm (fun i h => (hσ i h).symm) hv
        rw [h2] at Eb
        exact kq (.bl b) Hc ⟨Eb, gc, by rw [← h2]; exact lc.trans' (wipeR_lv.more fun i h => List.mem_append_right _ (List.mem_append_left _ h))⟩ (.inl (.bl b))
      refine ⟨fun i m _ Hc => m = ds.length - i ∧ i ≤ ds.length ∧ ∃ ρc, Ev (F.more G) B A (L2.wipe σ vs) Hc ρc ∧ Gro (Ow A ρ) H Hc ∧ Lv (effi ++ (vs ++ (efft ++ effe))) ρ ρc ∧ anL k g mt me vs (ds.drop i) ρc = some (res, ρ2),
        ⟨ds.length, by simp, Nat.zero_le _, wipeR ρ1 vs, E0, P1.gro.trans tg, (P1.lv.more fun i h => List.mem_append_left _ h).trans' (wipeR_lv.more fun i h => List.mem_append_right _ (List.mem_append_left _ h)), by rw [List.drop_zero]; exact e2⟩, ?_⟩
      rintro i m ys Hc ⟨rfl, hi, ρc, Ec, gc, lc, hm⟩
      by_cases hlt : i < ds.length
      · refine .inr ⟨it.goes i _ Hc Ec.rootsG hlt, fun _ H' => ∃ ρc, Ev (F.more G) B A (L2.wipe σ vs) H' ρc ∧ Gro (Ow A ρ) H H' ∧ Lv (effi ++ (vs ++ (efft ++ effe))) ρ ρc ∧ anL k g mt me vs (ds.drop (i + 1)) ρc = some (res, ρ2), fun _ H' q => ⟨ds.length - (i + 1), by omega, rfl, hlt, q⟩, fun x H' y => ?_⟩
        obtain ⟨ext, d, ed, rd⟩ := it.yields i _ Hc x H' Ec.rootsG Ec.less.occA hlt y
        rw [drop_cons' ed] at hm
        unfold anL at hm
        split at hm
        · cases hm
        · rename_i ρg eg
          refine ⟨G, B, A, ρc, d, ρg, Ec.ext ext, rd, eg, fun σ2 H2 E2 g2 hw l2 => ⟨by rw [hw, wipe_wipe], ?_⟩⟩
          have hw2 : L2.wipe σ2 vs = L2.wipe σ vs := by rw [hw, wipe_wipe]
          obtain ⟨wl, wσ⟩ := wipe_eq hw2
          have ow1 : ∀ a, Ow A ρg a → Ow A ρ a := fun a z => lc.ow (l2.ow z)
          have gro2 : Gro (Ow A ρ) H H2 := gc.trans ((ext.gro).trans (g2.mono fun _ z => z.elim))
          have lg : Lv (effi ++ (vs ++ (efft ++ effe))) ρ ρg := lc.trans' (l2.more fun i h => List.mem_append_right _ (List.mem_append_left _ h))
          split at hm
          · rename_i ρt et
            refine ⟨G, B, A, ρg, true, ρt, E2, et, fun H3 P3 => ?_⟩
            simp only [if_true]
            have lt : Lv (effi ++ (vs ++ (efft ++ effe))) ρ ρt := lg.trans' (P3.lv.more fun i h => List.mem_append_right _ (List.mem_append_right _ (List.mem_append_left _ h)))
            have gro3 := gro2.trans (P3.gro.mono ow1)
            split at hm
            · rename_i c ρe ee
              refine ⟨G, B, A, ρt, .bool c, ρe, P3.env, ee, fun yv H4 P4 r4 => ⟨c, (r4.rr P4.env).bool, ?_⟩⟩
              have le : Lv (effi ++ (vs ++ (efft ++ effe))) ρ ρe := lt.trans' (P4.lv.more fun i h => List.mem_append_right _ (List.mem_append_right _ (List.mem_append_right _ h)))
              have gro4 := gro3.trans (P4.gro.mono fun a z => ow1 a (P3.lv.ow z))
              have E5 := P4.env.wipe (σ' := L2.wipe σ2 vs) (vs := vs) (wipe_length _ _) (fun i h => wipe_ne h) hv
              rw [hw2] at E5
              have l5 := le.trans' (wipeR_lv (vs := vs) |>.more fun i h => List.mem_append_right effi (List.mem_append_left (efft ++ effe) h))
              by_cases hck : c = k
              · rw [if_pos hck] at hm ⊢
                cases hm
                exact fin E5 (wipe_length σ vs) hwip gro4 l5 rfl
              · rw [if_neg hck] at hm ⊢
                exact ⟨_, E5, gro4, l5, hm⟩
            · cases hm
          · rename_i ρt et
            refine ⟨G, B, A, ρg, false, ρt, E2, et, fun H3 P3 => ?_⟩
            simp only [Bool.false_eq_true, if_false]
            have lt : Lv (effi ++ (vs ++ (efft ++ effe))) ρ ρt := lg.trans' (P3.lv.more fun i h => List.mem_append_right _ (List.mem_append_right _ (List.mem_append_left _ h)))
            have E5 := P3.env.wipe (σ' := L2.wipe σ2 vs) (vs := vs) (wipe_length _ _) (fun i h => wipe_ne h) hv
            rw [hw2] at E5
            exact ⟨_, E5, gro2.trans (P3.gro.mono ow1), lt.trans' (wipeR_lv.more fun i h => List.mem_append_right _ (List.mem_append_left _ h)), hm⟩
          · cases hm
      · have e : i = ds.length := by omega
        subst e
        rw [List.drop_length] at hm
        cases hm
        exact .inl ⟨it.stops _ Hc Ec.rootsG, fin Ec (wipe_length σ vs) hwip gc lc rfl⟩
    · cases hm
  · cases hm
theorem gen_su {mi : M (List D)} {g : D → Rho → Option Rho} {mt : M Bool} {me : M D} {effi efft effe vs : List Nat} {P : Addr} (hP : P ∈ F.T) (hv : ∀ i ∈ vs, i ∉ F.io) {σ : L2.St} {H : Hp} {Q : VK}
    (h : rd F (mSu mi g mt me vs) [] (effi ++ (vs ++ (efft ++ effe))) σ H Q) : tGen P (rdI F mi effi) (wE F vs g) (tE F mt efft) (eE F me [] effe) vs uSum (fun ys H => Q (.int (isum ys)) H) σ H := by
  obtain ⟨B, A, ρ, d, ρ', E, hm, kq⟩ := h
  unfold mSu at hm
  split at hm
  · rename_i ds ρ1 e1
    split at hm
    · rename_i res ρ2 e2
      cases hm
      refine ⟨B, A, ρ, ds, ρ1, E, e1, fun J G H1 P1 hG it => ⟨P1.env.tabs P hP, fun H3 hT => ?_⟩⟩
      have tg : ∀ {C : Addr → Prop}, Gro C H1 H3 := Gro.tabbed (P1.env.tabs P hP) hT
      have E3 : Ev F B A σ H3 ρ1 := P1.env.quiet tg
      have hwip : ∀ i, i ∉ vs → (L2.wipe σ vs)[i]? = σ[i]? := fun i h => wipe_ne h
      have E0 : Ev (F.more G) B A (L2.wipe σ vs) H3 (wipeR ρ1 vs) :=
        Ev.more (E3.wipe (wipe_length σ vs) hwip hv) fun r hr => ((hG r hr).mono (C := fun _ => False) tg (fun a z => wipeR_av a z) fun _ z => z.elim)
      -- the end, from any slots that agree with σ outside vs
      have fin : ∀ {σ' : L2.St} {Hc : Hp} {ρc : Rho} {b : Int}, Ev (F.more G) B A σ' Hc ρc → σ'.length = σ.length → (∀ i, i ∉ vs → σ'[i]? = σ[i]?) → Gro (Ow A ρ) H Hc → Lv (effi ++ (vs ++ (efft ++ effe))) ρ ρc → (b, wipeR ρc vs) = (res, wipeR ρ2 vs) → Q (.int b) Hc := fun {σ' Hc ρc b} Ec hl hσ gc lc he => by
        have h1 : b = res := congrArg Prod.fst he
        have h2 : wipeR ρc vs = wipeR ρ2 vs := congrArg Prod.snd he
        subst h1
        have Eb := Ec.less.wipe (σ' := σ) hl.symm (fun i h => (hσ i h).symm) hv
        rw [h2] at Eb
        exact kq (.int b) Hc ⟨Eb, gc, by rw [← h2]; exact lc.trans' (wipeR_lv.more fun i h => List.mem_append_right _ (List.mem_append_left _ h))⟩ (.inl (.int b))
      refine ⟨fun i m ys Hc => m = ds.length - i ∧ i ≤ ds.length ∧ ∃ ρc, Ev (F.more G) B A (L2.wipe σ vs) Hc ρc ∧ Gro (Ow A ρ) H Hc ∧ Lv (effi ++ (vs ++ (efft ++ effe))) ρ ρc ∧ suL g mt me vs (ds.drop i) (isum ys) ρc = some (res, ρ2),
        ⟨ds.length, by simp, Nat.zero_le _, wipeR ρ1 vs, E0, P1.gro.trans tg, (P1.lv.more fun i h => List.mem_append_left _ h).trans' (wipeR_lv.more fun i h => List.mem_append_right _ (List.mem_append_left _ h)), by rw [List.drop_zero]; exact e2⟩, ?_⟩
      rintro i m ys Hc ⟨rfl, hi, ρc, Ec, gc, lc, hm⟩
      by_cases hlt : i < ds.length
      · refine .inr ⟨it.goes i _ Hc Ec.rootsG hlt, fun ys H' => ∃ ρc, Ev (F.more G) B A (L2.wipe σ vs) H' ρc ∧ Gro (Ow A ρ) H H' ∧ Lv (effi ++ (vs ++ (efft ++ effe))) ρ ρc ∧ suL g mt me vs (ds.drop (i + 1)) (isum ys) ρc = some (res, ρ2), fun _ H' q => ⟨ds.length - (i + 1), by omega, rfl, hlt, q⟩, fun x H' y => ?_⟩
        obtain ⟨ext, d, ed, rd⟩ := it.yields i _ Hc x H' Ec.rootsG Ec.less.occA hlt y
        rw [drop_cons' ed] at hm
        unfold suL at hm
        split at hm
        · cases hm
        · rename_i ρg eg
          refine ⟨G, B, A, ρc, d, ρg, Ec.ext ext, rd, eg, fun σ2 H2 E2 g2 hw l2 => ⟨by rw [hw, wipe_wipe], ?_⟩⟩
          have hw2 : L2.wipe σ2 vs = L2.wipe σ vs := by rw [hw, wipe_wipe]
          obtain ⟨wl, wσ⟩ := wipe_eq hw2
          have ow1 : ∀ a, Ow A ρg a → Ow A ρ a := fun a z => lc.ow (l2.ow z)
          have gro2 : Gro (Ow A ρ) H H2 := gc.trans ((ext.gro).trans (g2.mono fun _ z => z.elim))
          have lg : Lv (effi ++ (vs ++ (efft ++ effe))) ρ ρg := lc.trans' (l2.more fun i h => List.mem_append_right _ (List.mem_append_left _ h))
          split at hm
          · rename_i ρt et
            refine ⟨G, B, A, ρg, true, ρt, E2, et, fun H3 P3 => ?_⟩
            simp only [if_true]
            have lt : Lv (effi ++ (vs ++ (efft ++ effe))) ρ ρt := lg.trans' (P3.lv.more fun i h => List.mem_append_right _ (List.mem_append_right _ (List.mem_append_left _ h)))
            have gro3 := gro2.trans (P3.gro.mono ow1)
            split at hm
            · rename_i c ρe ee
              split at hm
              · rename_i hz
                refine ⟨G, B, A, ρt, .int c, ρe, P3.env, ee, fun yv H4 P4 r4 => ⟨c, (r4.rr P4.env).int, hz.1, hz.2, ?_⟩⟩
                have ey := (r4.rr P4.env).int
                subst ey
                have le : Lv (effi ++ (vs ++ (efft ++ effe))) ρ ρe := lt.trans' (P4.lv.more fun i h => List.mem_append_right _ (List.mem_append_right _ (List.mem_append_right _ h)))
                have gro4 := gro3.trans (P4.gro.mono fun a z => ow1 a (P3.lv.ow z))
                have E5 := P4.env.wipe (σ' := L2.wipe σ2 vs) (vs := vs) (wipe_length _ _) (fun i h => wipe_ne h) hv
                rw [hw2] at E5
                have l5 := le.trans' (wipeR_lv (vs := vs) |>.more fun i h => List.mem_append_right effi (List.mem_append_left (efft ++ effe) h))
                exact ⟨_, E5, gro4, l5, by rw [isum_snoc]; exact hm⟩
              · cases hm
            · cases hm
          · rename_i ρt et
            refine ⟨G, B, A, ρg, false, ρt, E2, et, fun H3 P3 => ?_⟩
            simp only [Bool.false_eq_true, if_false]
            have lt : Lv (effi ++ (vs ++ (efft ++ effe))) ρ ρt := lg.trans' (P3.lv.more fun i h => List.mem_append_right _ (List.mem_append_right _ (List.mem_append_left _ h)))
            have E5 := P3.env.wipe (σ' := L2.wipe σ2 vs) (vs := vs) (wipe_length _ _) (fun i h => wipe_ne h) hv
            rw [hw2] at E5
            exact ⟨_, E5, gro2.trans (P3.gro.mono ow1), lt.trans' (wipeR_lv.more fun i h => List.mem_append_right _ (List.mem_append_left _ h)), hm⟩
          · cases hm
      · have e : i = ds.length := by omega
        subst e
        rw [List.drop_length] at hm
        cases hm
        exact .inl ⟨it.stops _ Hc Ec.rootsG, fin Ec (wipe_length σ vs) hwip gc lc rfl⟩
    · cases hm
  · cases hm
theorem tGen_mono {P : Addr} {wi : TI} {g : TG} {tt : TT} {te : TE} {vs : List Nat} {U U' : List V → V → Hp → (Hp → Prop) → Prop} {Qd : List V → Hp → Prop} {σ : L2.St} {H : Hp} (hwi : ∀ σ H (R R' : It → Hp → Prop), (∀ J H, R J H → R' J H) → wi σ H R → wi σ H R')
    (hg : ∀ x σ H (Q Q' : L2.St → Hp → Prop), (∀ σ H, Q σ H → Q' σ H) → g x σ H Q → g x σ H Q') (ht : ∀ σ H (Q Q' : Bool → Hp → Prop), (∀ b H, Q b H → Q' b H) → tt σ H Q → tt σ H Q') (he : ∀ σ H (Q Q' : VK), (∀ v H, Q v H → Q' v H) → te σ H Q → te σ H Q')
    (hU : ∀ ys y H nx, U ys y H nx → U' ys y H nx) (h : tGen P wi g tt te vs U Qd σ H) : tGen P wi g tt te vs U' Qd σ H := by
  refine hwi _ _ _ _ (fun J H2 q => ⟨q.1, fun H3 hT => ?_⟩) h
  obtain ⟨W, hW, T⟩ := q.2 H3 hT
  refine ⟨W, hW, fun i m ys H w => ?_⟩
  rcases T i m ys H w with z | ⟨go, Nx, h1, h2⟩
  · exact .inl z
  · refine .inr ⟨go, Nx, h1, fun x H' y => hg _ _ _ _ _ (fun σ2 H2 q => ⟨q.1, ht _ _ _ _ (fun b H3 q => ?_) q.2⟩) (h2 x H' y)⟩
    cases b with
    | true =>
      simp only [if_true] at q ⊢
      exact he _ _ _ _ (fun v H q => hU _ _ _ _ q) q
    | false =>
      simp only [Bool.false_eq_true, if_false] at q ⊢
      exact q
theorem rdI_mono {m : M (List D)} {eff : List Nat} (σ : L2.St) (H : Hp) (R R' : It → Hp → Prop) (h : ∀ J H, R J H → R' J H) : rdI F m eff σ H R → rdI F m eff σ H R' := fun ⟨B, A, ρ, ds, ρ', E, hm, k⟩ => ⟨B, A, ρ, ds, ρ', E, hm, fun J G H' P hG it => h _ _ (k J G H' P hG it)⟩
theorem wE_mono {vs : List Nat} {g : D → Rho → Option Rho} (x : V) (σ : L2.St) (H : Hp) (Q Q' : L2.St → Hp → Prop) (h : ∀ σ H, Q σ H → Q' σ H) : wE F vs g x σ H Q → wE F vs g x σ H Q' := fun ⟨G, B, A, ρ, d, ρ', E, r, hm, k⟩ => ⟨G, B, A, ρ, d, ρ', E, r, hm, fun σ' H' E' g' hw l => h _ _ (k σ' H' E' g' hw l)⟩
theorem tE_mono {m : M Bool} {eff : List Nat} (σ : L2.St) (H : Hp) (Q Q' : Bool → Hp → Prop) (h : ∀ b H, Q b H → Q' b H) : tE F m eff σ H Q → tE F m eff σ H Q' := fun ⟨G, B, A, ρ, b, ρ', E, hm, k⟩ => ⟨G, B, A, ρ, b, ρ', E, hm, fun H' P => h _ _ (k H' P)⟩
theorem eE_mono {m : M D} {dep eff : List Nat} (σ : L2.St) (H : Hp) (Q Q' : VK) (h : ∀ b H, Q b H → Q' b H) : eE F m dep eff σ H Q → eE F m dep eff σ H Q' := fun ⟨G, B, A, ρ, b, ρ', E, hm, k⟩ => ⟨G, B, A, ρ, b, ρ', E, hm, fun v H' P r => h _ _ (k v H' P r)⟩
section
variable {c P : Addr} {elt iter : Expr} {ifs : List Expr} {scope : Scope} {own : List (Str × Nat)} {mi : M (List D)} {g : D → Rho → Option Rho} {mt : M Bool} {me : M D} {effi efft effe : List Nat} {k : Nat}
theorem x_any (hP : P ∈ F.T) (hr : Room k X.A) (hcalm : X.calm = true) (hN : X.N.Nodup) (TB : TabB X.base X.mg c P) (hcode : X.env.code = .ref c) (ok : GOk X.N X.env.scope scope own) (hi : PI X tg iter (rdI F mi effi))
    (hg : ∀ (s : Shared) (H : Hp) (C : Addr) (code : Value) (fp : List Addr) (pn : List (Addr × Obj)) G, PG (gcx X s H (genEnv scope (cloFrom X.env.cells scope.names []) C code builtinsNs X.env) fp pn (X.A.in1.in1.deeper (genEnv scope (cloFrom X.env.cells scope.names []) C code builtinsNs X.env))) tg (rdW (F.more G) (own.map (·.2)) g))
    (ht : ∀ (s : Shared) (H : Hp) (C : Addr) (code : Value) (fp : List Addr) (pn : List (Addr × Obj)) G, PTs (gcx X s H (genEnv scope (cloFrom X.env.cells scope.names []) C code builtinsNs X.env) fp pn (X.A.in1.in1.deeper (genEnv scope (cloFrom X.env.cells scope.names []) C code builtinsNs X.env))) ifs (rdT (F.more G) mt efft))
    (he : ∀ (s : Shared) (H : Hp) (C : Addr) (code : Value) (fp : List Addr) (pn : List (Addr × Obj)) G, PE (gcx X s H (genEnv scope (cloFrom X.env.cells scope.names []) C code builtinsNs X.env) fp pn (X.A.in1.in1.deeper (genEnv scope (cloFrom X.env.cells scope.names []) C code builtinsNs X.env))) elt (rd (F.more G) me [] effe))
    (hga : Gl X "any") (hma : X.mg "any" = none) (hv : ∀ i ∈ own.map (·.2), i ∉ F.io := by decide) (hs : ∀ v, genFold iter X.env v = pure v := by intro _; rfl)
    (hst : starEach [.GeneratorExp elt [⟨tg, iter, ifs, 0⟩] scope gpos] X.env = (false, eval (.GeneratorExp elt [⟨tg, iter, ifs, 0⟩] scope gpos) X.env) :: starEach [] X.env := by rfl) :
    PE X (.Call (.Name "any" p) [.GeneratorExp elt [⟨tg, iter, ifs, 0⟩] scope gpos] [] pos) (rd F (mAn true mi g mt me (own.map (·.2))) [] (effi ++ (own.map (·.2) ++ (efft ++ effe)))) := by
  refine PE.mono (pe_anyG (pg_gen hr hcalm hN TB hcode ok hi (fun s H C code fp pn => PG.exW (hg s H C code fp pn)) (fun s H C code fp pn => PTs.ex (ht s H C code fp pn)) (fun s H C code fp pn => PE.ex (he s H C code fp pn)) hs) hga hma hst) fun σ H Q h => ?_
  exact tGen_mono rdI_mono wE_mono tE_mono eE_mono (fun ys y H nx ⟨c, e, q⟩ => ⟨c, e, q⟩) (gen_an (k := true) hP hv h)
theorem x_all (hP : P ∈ F.T) (hr : Room k X.A) (hcalm : X.calm = true) (hN : X.N.Nodup) (TB : TabB X.base X.mg c P) (hcode : X.env.code = .ref c) (ok : GOk X.N X.env.scope scope own) (hi : PI X tg iter (rdI F mi effi))
    (hg : ∀ (s : Shared) (H : Hp) (C : Addr) (code : Value) (fp : List Addr) (pn : List (Addr × Obj)) G, PG (gcx X s H (genEnv scope (cloFrom X.env.cells scope.names []) C code builtinsNs X.env) fp pn (X.A.in1.in1.deeper (genEnv scope (cloFrom X.env.cells scope.names []) C code builtinsNs X.env))) tg (rdW (F.more G) (own.map (·.2)) g))
    (ht : ∀ (s : Shared) (H : Hp) (C : Addr) (code : Value) (fp : List Addr) (pn : List (Addr × Obj)) G, PTs (gcx X s H (genEnv scope (cloFrom X.env.cells scope.names []) C code builtinsNs X.env) fp pn (X.A.in1.in1.deeper (genEnv scope (cloFrom X.env.cells scope.names []) C code builtinsNs X.env))) ifs (rdT (F.more G) mt efft))
    (he : ∀ (s : Shared) (H : Hp) (C : Addr) (code : Value) (fp : List Addr) (pn : List (Addr × Obj)) G, PE (gcx X s H (genEnv scope (cloFrom X.env.cells scope.names []) C code builtinsNs X.env) fp pn (X.A.in1.in1.deeper (genEnv scope (cloFrom X.env.cells scope.names []) C code builtinsNs X.env))) elt (rd (F.more G) me [] effe))
    (hga : Gl X "all") (hma : X.mg "all" = none) (hv : ∀ i ∈ own.map (·.2), i ∉ F.io := by decide) (hs : ∀ v, genFold iter X.env v = pure v := by intro _; rfl)
    (hst : starEach [.GeneratorExp elt [⟨tg, iter, ifs, 0⟩] scope gpos] X.env = (false, eval (.GeneratorExp elt [⟨tg, iter, ifs, 0⟩] scope gpos) X.env) :: starEach [] X.env := by rfl) :
    PE X (.Call (.Name "all" p) [.GeneratorExp elt [⟨tg, iter, ifs, 0⟩] scope gpos] [] pos) (rd F (mAn false mi g mt me (own.map (·.2))) [] (effi ++ (own.map (·.2) ++ (efft ++ effe)))) := by
  refine PE.mono (pe_allG (pg_gen hr hcalm hN TB hcode ok hi (fun s H C code fp pn => PG.exW (hg s H C code fp pn)) (fun s H C code fp pn => PTs.ex (ht s H C code fp pn)) (fun s H C code fp pn => PE.ex (he s H C code fp pn)) hs) hga hma hst) fun σ H Q h => ?_
  refine tGen_mono rdI_mono wE_mono tE_mono eE_mono (fun ys y H nx ⟨c, e, q⟩ => ⟨c, e, ?_⟩) (gen_an (k := false) hP hv h)
  cases c with
  | true => simpa using q
  | false => simpa using q
theorem x_sum (hP : P ∈ F.T) (hr : Room k X.A) (hcalm : X.calm = true) (hN : X.N.Nodup) (TB : TabB X.base X.mg c P) (hcode : X.env.code = .ref c) (ok : GOk X.N X.env.scope scope own) (hi : PI X tg iter (rdI F mi effi))
    (hg : ∀ (s : Shared) (H : Hp) (C : Addr) (code : Value) (fp : List Addr) (pn : List (Addr × Obj)) G, PG (gcx X s H (genEnv scope (cloFrom X.env.cells scope.names []) C code builtinsNs X.env) fp pn (X.A.in1.in1.deeper (genEnv scope (cloFrom X.env.cells scope.names []) C code builtinsNs X.env))) tg (rdW (F.more G) (own.map (·.2)) g))
    (ht : ∀ (s : Shared) (H : Hp) (C : Addr) (code : Value) (fp : List Addr) (pn : List (Addr × Obj)) G, PTs (gcx X s H (genEnv scope (cloFrom X.env.cells scope.names []) C code builtinsNs X.env) fp pn (X.A.in1.in1.deeper (genEnv scope (cloFrom X.env.cells scope.names []) C code builtinsNs X.env))) ifs (rdT (F.more G) mt efft))
    (he : ∀ (s : Shared) (H : Hp) (C : Addr) (code : Value) (fp : List Addr) (pn : List (Addr × Obj)) G, PE (gcx X s H (genEnv scope (cloFrom X.env.cells scope.names []) C code builtinsNs X.env) fp pn (X.A.in1.in1.deeper (genEnv scope (cloFrom X.env.cells scope.names []) C code builtinsNs X.env))) elt (rd (F.more G) me [] effe))
    (hga : Gl X "sum") (hma : X.mg "sum" = none) (hv : ∀ i ∈ own.map (·.2), i ∉ F.io := by decide) (hs : ∀ v, genFold iter X.env v = pure v := by intro _; rfl)
    (hst : starEach [.GeneratorExp elt [⟨tg, iter, ifs, 0⟩] scope gpos] X.env = (false, eval (.GeneratorExp elt [⟨tg, iter, ifs, 0⟩] scope gpos) X.env) :: starEach [] X.env := by rfl) :
    PE X (.Call (.Name "sum" p) [.GeneratorExp elt [⟨tg, iter, ifs, 0⟩] scope gpos] [] pos) (rd F (mSu mi g mt me (own.map (·.2))) [] (effi ++ (own.map (·.2) ++ (efft ++ effe)))) := by
  refine PE.mono (pe_sumG (pg_gen hr hcalm hN TB hcode ok hi (fun s H C code fp pn => PG.exW (hg s H C code fp pn)) (fun s H C code fp pn => PTs.ex (ht s H C code fp pn)) (fun s H C code fp pn => PE.ex (he s H C code fp pn)) hs) hga hma hst) fun σ H Q h => ?_
  exact gen_su hP hv h
end
end
end PD

set_option Elab.async false
set_option linter.all false
set_option maxRecDepth 100000
set_option maxHeartbeats 2000000
/-! PDi: defs and their calls on data. -/
namespace PD
open PySem PySem.Spec PyProof.Rows L2 GxR GenX
/-! ### what a def promises -/
structure ArgsOk (K : PySem.W.Frag) (S : Addr → Prop) (io : List Nat) (A0 : Nat → Addr) (H : Hp) (vs : List V) (ds : List D) : Prop where
  len : vs.length = ds.length
  at_ : ∀ (j : Nat) (v : V) (d : D), vs[j]? = some v → ds[j]? = some d → (j ∈ io → v = .ref (A0 j) ∧ RelO K S H (A0 j) d) ∧ (j ∉ io → RelD K S H v d)
  ioS : ∀ j ∈ io, j < ds.length ∧ S (A0 j)
  inj : ∀ i ∈ io, ∀ j ∈ io, A0 i = A0 j → i = j
def spD (K : PySem.W.Frag) (T : List Addr) (io : List Nat) (n : Nat) (f : List D → Option (D × List D)) : Sp := fun vs H Q _ => ∃ S A0 ds r ds', f ds = some (r, ds') ∧ ds.length = n ∧ ds'.length = n ∧ ArgsOk K S io A0 H vs ds ∧ (∀ a, S a → H a ≠ none) ∧ (∀ P ∈ T, TabG H P) ∧
  ∀ v H', Gro (fun a => ∃ j ∈ io, a = A0 j) H H' → (∀ j ∈ io, ∀ d', ds'[j]? = some d' → RelO K S H' (A0 j) d') → RelD K S H' v r → Q v H'
theorem spD_len {K : PySem.W.Frag} {T : List Addr} {io : List Nat} {n : Nat} {f : List D → Option (D × List D)} (vs : List V) (H : Hp) (Q : VK) (E : XK) (h : spD K T io n f vs H Q E) : vs.length = n := by
  obtain ⟨S, A0, ds, r, ds', _, h1, _, h2, _⟩ := h
  rw [h2.len, h1]
def ioR (io : List Nat) : Nat → List D → Rho
  | _, [] => []
  | j, d :: ds => some (decide (j ∈ io), d) :: ioR io (j + 1) ds
def startR (io : List Nat) (n : Nat) (ds : List D) : Rho := ioR io 0 ds ++ List.replicate (n - ds.length) none
def backR (ρ : Rho) (n : Nat) : List D := (List.range n).map fun j => match ρ[j]? with
  | some (some (_, d)) => d
  | _ => .none
def runD (n : Nat) (io : List Nat) (mb : MS) (ds : List D) : Option (D × List D) := match mb (startR io n ds) with
  | some (.rt d ρ) => some (d, backR ρ ds.length)
  | some (.nx ρ) => some (.none, backR ρ ds.length)
  | _ => none
theorem ioR_get {io : List Nat} : ∀ {ds : List D} {j i : Nat}, (ioR io j ds)[i]? = (ds[i]?).map fun d => some (decide (j + i ∈ io), d)
  | [], _, _ => by simp [ioR]
  | d :: ds, j, 0 => by simp [ioR]
  | d :: ds, j, i + 1 => by
    unfold ioR
    rw [List.getElem?_cons_succ, ioR_get, List.getElem?_cons_succ]
    have : j + 1 + i = j + (i + 1) := by omega
    rw [this]
theorem ioR_len {io : List Nat} : ∀ {ds : List D} {j : Nat}, (ioR io j ds).length = ds.length
  | [], _ => rfl
  | _ :: _, _ => congrArg (· + 1) ioR_len
theorem startR_some {io : List Nat} {n i : Nat} {ds : List D} {b : Bool} {d : D} (h : (startR io n ds)[i]? = some (some (b, d))) : ds[i]? = some d ∧ b = decide (i ∈ io) := by
  unfold startR at h
  by_cases hi : i < ds.length
  · rw [List.getElem?_append_left (by rw [ioR_len]; exact hi), ioR_get, Nat.zero_add] at h
    cases q : ds[i]? with
    | none => rw [q] at h; cases h
    | some e =>
      rw [q] at h
      cases h
      exact ⟨rfl, rfl⟩
  · rw [List.getElem?_append_right (by rw [ioR_len]; omega), List.getElem?_replicate] at h
    split at h <;> cases h
theorem startR_at {io : List Nat} {n i : Nat} {ds : List D} {d : D} (h : ds[i]? = some d) : (startR io n ds)[i]? = some (some (decide (i ∈ io), d)) := by
  have hi : i < ds.length := (List.getElem?_eq_some_iff.mp h).1
  unfold startR
  rw [List.getElem?_append_left (by rw [ioR_len]; exact hi), ioR_get, Nat.zero_add, h]
  rfl
theorem start_at {N : List Str} {vs : List V} {i : Nat} {v : V} (h : vs[i]? = some v) : (L2.start N vs)[i]? = some (some v) := by
  have hi : i < vs.length := (List.getElem?_eq_some_iff.mp h).1
  unfold L2.start
  rw [List.getElem?_append_left (by simpa using hi), List.getElem?_map, h]
  rfl
theorem ev_start {K : PySem.W.Frag} {S : Addr → Prop} {io : List Nat} {T : List Addr} {A0 : Nat → Addr} {H : Hp} {vs : List V} {ds : List D} {N : List Str} (h : ArgsOk K S io A0 H vs ds) (occ : ∀ a, S a → H a ≠ none) (tabs : ∀ P ∈ T, TabG H P) (nw : Bool := false) :
    Ev ⟨K, S, io, T, H, A0, [], nw⟩ [] A0 (L2.start N vs) H (startR io N.length ds) := by
  have hS : ∀ a, Av ⟨K, S, io, T, H, A0, [], nw⟩ [] A0 (startR io N.length ds) a → S a := fun a z => by
    rcases z with z | z | ⟨i, d, e, z⟩
    · exact z
    · cases z
    · obtain ⟨_, hb⟩ := startR_some e
      rw [z]
      exact (h.ioS i (of_decide_eq_true hb.symm)).2
  have vat : ∀ {i : Nat} {d : D}, ds[i]? = some d → ∃ v, vs[i]? = some v := fun {i d} e => by
    have hi : i < vs.length := by rw [h.len]; exact (List.getElem?_eq_some_iff.mp e).1
    exact ⟨vs[i], by simp [hi]⟩
  refine ⟨?_, fun i d e => ?_, fun i d e => ?_, fun i j d e h1 h2 z => ?_, fun i d e hi => ?_, fun i hi => ?_, occ, fun b hb => absurd hb (by simp), Gro.refl _, tabs, fun r hr => absurd hr (by simp)⟩
  · unfold startR L2.start
    rw [List.length_append, List.length_append, ioR_len, List.length_replicate, List.length_replicate, List.length_map, h.len]
  · obtain ⟨e1, hb⟩ := startR_some e
    obtain ⟨v, ev⟩ := vat e1
    exact ⟨v, start_at ev, ((h.at_ i v d ev e1).2 (of_decide_eq_false hb.symm)).mono (C := fun _ => False) (Gro.refl _) hS fun _ z => z.elim⟩
  · obtain ⟨e1, hb⟩ := startR_some e
    obtain ⟨v, ev⟩ := vat e1
    obtain ⟨g1, g2⟩ := (h.at_ i v d ev e1).1 (of_decide_eq_true hb.symm)
    exact ⟨by rw [← g1]; exact start_at ev, g2.mono (C := fun _ => False) (Gro.refl _) hS (fun _ z => z.elim) id⟩
  · exact h.inj i (of_decide_eq_true (startR_some h1).2.symm) j (of_decide_eq_true (startR_some h2).2.symm) z
  · exact absurd (of_decide_eq_true (startR_some e).2.symm) hi
  · obtain ⟨hl, hs⟩ := h.ioS i hi
    refine ⟨rfl, hs, by simp, ds[i], ?_⟩
    rw [startR_at (d := ds[i]) (by simp [hl])]
    rw [decide_eq_true (show i ∈ io from hi)]
/-- a def of the text, its code object known -/
structure FunC (K : PySem.W.Frag) (x qual : Str) (st : Stmt) (f : Addr) (fd : FuncData) (c : Addr) : Prop where
  ex : ∃ (oc : Value) (od : Option Addr) (kV doc pm : Value) (an : Option Addr) (ct : Value) (osl : Array (Option Value)),
    fd = PySem.W.fnOf x qual (defArgs st) (defBody st) (defScope st) .none kV doc pm an (.ref c) ct ∧ K.lookup f = some ⟨oc, od, .func fd, osl⟩ ∧ PySem.W.codeIn K (.ref c) qual = true
theorem back_get {ρ : Rho} {n j : Nat} {d : D} (h : (backR ρ n)[j]? = some d) (hb : ∃ b e, ρ[j]? = some (some (b, e))) : ∃ b, ρ[j]? = some (some (b, d)) := by
  unfold backR at h
  obtain ⟨b, e, q⟩ := hb
  have hj : j < n := by
    have := (List.getElem?_eq_some_iff.mp h).1
    simpa using this
  rw [List.getElem?_map, List.getElem?_range hj] at h
  simp only [Option.map_some, q, Option.some.injEq] at h
  exact ⟨b, by rw [q, h]⟩
section
variable {P : Program} {w : World} {K : PySem.W.Frag} {mg : Str → Option Value} {base : Heap}
/-- THE RULE for a def on data -/
theorem okD {x qual : Str} {st : Stmt} {f c : Addr} {fd : FuncData} {N ps : List Str} {k : Nat} {T : List Addr} {io : List Nat} {mb : MS} (F : FunC K x qual st f fd c) (Sc : FnScope N ps (defScope st))
    (hbody : ∀ (A : Around) (outer : List Env) (s : Shared) (H : Hp) (E : XK) (S : Addr → Prop) (A0 : Nat → Addr), Room k (A.deeper (envOfC qual (defScope st) s.heap.objs.size f (.ref c))) →
      PSs (cxOf CX0 P w K mg base N qual (defScope st) f (.ref c) A outer s H E).nox (defBody st) (rdS ⟨K, S, io, T, H, A0, [], false⟩ mb)) :
    FnOk P w K mg base CX0 (k + 1) f fd ps (spD K T io ps.length (runD N.length io mb)) := by
  obtain ⟨oc, od, kV, doc, pm, an, ct, osl, rfl, lk, hcd⟩ := F.ex
  refine fn_of lk hcd Sc spD_len fun A outer s H vs Q E hr hsp => ?_
  obtain ⟨S, A0, ds, r, ds', hf, hn, hn', ha, occ, tabs, k⟩ := hsp
  refine ⟨_, (hbody A outer s H E S A0 hr).nox, A0, startR io N.length ds, ?_⟩
  have fin : ∀ {A' : Nat → Addr} {σ' : L2.St} {H' : Hp} {ρ' : Rho}, Ev ⟨K, S, io, T, H, A0, [], false⟩ [] A' σ' H' ρ' → (∀ j ∈ io, ∀ d', (backR ρ' ds.length)[j]? = some d' → RelO K S H' (A0 j) d') := fun {A' σ' H' ρ'} E' j hj d' hd => by
    obtain ⟨h1, _, _, e, h4⟩ := E'.ios j hj
    obtain ⟨b, h5⟩ := back_get hd ⟨true, e, h4⟩
    rw [h4] at h5
    cases h5
    rw [← (show A' j = A0 j from h1)]
    exact (E'.own j d' h4).2.mono (C := fun _ => False) (Gro.refl _) (fun a z => .inl z) (fun _ z => z.elim) id
  unfold runD at hf
  split at hf
  · rename_i d ρ' e
    cases hf
    exact ⟨.rt r ρ', ev_start ha occ tabs, e, fun A' σ' v H' E' r' => k v H' E'.chg (fin E') r'⟩
  · rename_i ρ' e
    cases hf
    exact ⟨.nx ρ', ev_start ha occ tabs, e, fun A' σ' H' E' => k .non H' E'.chg (fin E') .non⟩
  · cases hf
end

/-! ### calls -/
section
variable {F : Frm} {B : List Addr} {A : Nat → Addr} {σ : L2.St} {H H' : Hp} {ρ ρ' : Rho}
/-- several owned things are written at once -/
theorem Ev.writes (E : Ev F B A σ H ρ) {I : List Nat} (hI : ∀ i ∈ I, ∃ d : D, ρ[i]? = some (some (true, d))) (g : Gro (fun a => ∃ i ∈ I, a = A i) H H') (hl : ρ'.length = ρ.length) (hk : ∀ i, i ∉ I → ρ'[i]? = ρ[i]?)
    (hw : ∀ i ∈ I, ∃ d, ρ'[i]? = some (some (true, d)) ∧ RelO F.K (Av F B A ρ) H' (A i) d) : Post F B A σ H ρ I H' ρ' := by
  have own' : ∀ (j : Nat) (e : D), ρ'[j]? = some (some (true, e)) → ∃ e0, ρ[j]? = some (some (true, e0)) := fun j e h => by
    by_cases hj : j ∈ I
    · exact hI j hj
    · exact ⟨e, by rw [← hk j hj]; exact h⟩
  have hC : ∀ a, (∃ i ∈ I, a = A i) → Av F B A ρ a := fun a ⟨i, hi, z⟩ => let ⟨d, e⟩ := hI i hi; .inr (.inr ⟨i, d, e, z⟩)
  have hav : ∀ a, Av F B A ρ' a → Av F B A ρ a := fun a h => by
    rcases h with h | h | ⟨j, e', h, z⟩
    · exact .inl h
    · exact .inr (.inl h)
    · obtain ⟨e0, q⟩ := own' j e' h
      exact .inr (.inr ⟨j, e0, q, z⟩)
  refine ⟨⟨by rw [hl]; exact E.len, fun j e h => ?_, fun j e h => ?_, fun j k e1 e2 h1 h2 z => ?_, fun j e h hj => ?_, fun j hj => ?_, fun a h => g.live a (E.occ a h), fun b hb => ⟨g.live b (E.occB b hb).1, (E.occB b hb).2⟩, ⟨fun a o h n t => ?_, fun P t => g.tabs P (E.chg.tabs P t), fun a n => g.live a (E.chg.live a n)⟩, fun P hP => g.tabs P (E.tabs P hP), fun r hr => (E.roots r hr).mono g hav hC⟩,
    g.mono fun a ⟨i, hi, z⟩ => let ⟨d, e⟩ := hI i hi; ⟨i, d, e, z⟩, ⟨hk, own'⟩⟩
  · have hj : j ∉ I := fun hj => by
      obtain ⟨d, q, _⟩ := hw j hj
      rw [q] at h
      cases h
    rw [hk j hj] at h
    obtain ⟨w, h1, h2⟩ := E.plain j e h
    exact ⟨w, h1, h2.mono g hav hC⟩
  · by_cases hj : j ∈ I
    · obtain ⟨d, q, r⟩ := hw j hj
      rw [q] at h
      cases h
      obtain ⟨d0, q0⟩ := hI j hj
      exact ⟨(E.own j d0 q0).1, r.mono (C := fun _ => False) (Gro.refl _) hav (fun _ z => z.elim) id⟩
    · rw [hk j hj] at h
      obtain ⟨h1, h2⟩ := E.own j e h
      exact ⟨h1, h2.mono g hav hC fun ⟨i, hi, z⟩ => by
        obtain ⟨d0, q0⟩ := hI i hi
        exact hj (E.inj j i e d0 h q0 z ▸ hi)⟩
  · obtain ⟨f1, q1⟩ := own' j e1 h1
    obtain ⟨f2, q2⟩ := own' k e2 h2
    exact E.inj j k f1 f2 q1 q2 z
  · obtain ⟨f1, q1⟩ := own' j e h
    exact E.nS j f1 q1 hj
  · obtain ⟨h1, h2, h3, e', h4⟩ := E.ios j hj
    refine ⟨h1, h2, h3, ?_⟩
    by_cases hjI : j ∈ I
    · obtain ⟨d, q, _⟩ := hw j hjI
      exact ⟨d, q⟩
    · exact ⟨e', by rw [hk j hjI]; exact h4⟩
  · refine g.keep a o (E.chg.keep a o h n t) (fun ⟨i, hi, z⟩ => ?_) t
    obtain ⟨d, e⟩ := hI i hi
    by_cases hj : i ∈ F.io
    · exact n ⟨i, hj, z.trans (E.ios i hj).1⟩
    · rw [z, (E.nS i d e hj).2.2] at h
      cases h
end
/-- arguments: plain ones, and owned slots that are given to be written -/
inductive Tagd (F : Frm) (B : List Addr) (A : Nat → Addr) (ρ : Rho) (H : Hp) : List (Option Nat) → List V → List D → Prop
  | nil : Tagd F B A ρ H [] [] []
  | plain {ts : List (Option Nat)} {v : V} {vs : List V} {d : D} {ds : List D} : RelD F.K (Av F B A ρ) H v d → Tagd F B A ρ H ts vs ds → Tagd F B A ρ H (none :: ts) (v :: vs) (d :: ds)
  | io {i : Nat} {ts : List (Option Nat)} {vs : List V} {d : D} {ds : List D} : ρ[i]? = some (some (true, d)) → Tagd F B A ρ H ts vs ds → Tagd F B A ρ H (some i :: ts) (.ref (A i) :: vs) (d :: ds)
def rdC (F : Frm) (ts : List (Option Nat)) (m : M (List D)) (eff : List Nat) : TA := fun σ H Q => ∃ B A ρ ds ρ', Ev F B A σ H ρ ∧ m ρ = some (ds, ρ') ∧ ∀ vs H', Post F B A σ H ρ eff H' ρ' → Tagd F B A ρ' H' ts vs ds → Q vs H'
def mOwn (i : Nat) : M D := fun ρ => match ρ[i]? with
  | some (some (true, d)) => some (d, ρ)
  | _ => none
/-- the written things are put back -/
def putBack : List (Option Nat) → List D → Rho → Rho
  | some i :: ts, d :: ds, ρ => putBack ts ds (ρ.set i (some (true, d)))
  | none :: ts, _ :: ds, ρ => putBack ts ds ρ
  | _, _, ρ => ρ
def mCall (f : List D → Option (D × List D)) (ts : List (Option Nat)) (m : M (List D)) : M D := fun ρ => match m ρ with
  | some (ds, ρ1) => (match f ds with
    | some (r, ds') => if ds'.length = ds.length then some (r, putBack ts ds' ρ1) else none
    | none => none)
  | none => none
/-- the places of the tags -/
def tagIo : List (Option Nat) → Nat → List Nat
  | [], _ => []
  | some _ :: ts, j => j :: tagIo ts (j + 1)
  | none :: ts, j => tagIo ts (j + 1)
theorem putBack_len : ∀ {ts : List (Option Nat)} {ds : List D} {ρ : Rho}, (putBack ts ds ρ).length = ρ.length
  | some i :: ts, d :: ds, ρ => by unfold putBack; rw [putBack_len, List.length_set]
  | none :: ts, _ :: ds, ρ => by unfold putBack; exact putBack_len
  | [], _, _ => by unfold putBack; rfl
  | some _ :: _, [], _ => by unfold putBack; rfl
  | none :: _, [], _ => by unfold putBack; rfl
theorem putBack_ne {i : Nat} : ∀ {ts : List (Option Nat)} {ds : List D} {ρ : Rho}, i ∉ ts.filterMap id → (putBack ts ds ρ)[i]? = ρ[i]?
  | some j :: ts, d :: ds, ρ, h => by
    have h1 : i ≠ j ∧ i ∉ ts.filterMap id := by simpa using h
    unfold putBack
    rw [putBack_ne h1.2, get_set, if_neg (Ne.symm h1.1)]
  | none :: ts, _ :: ds, ρ, h => by
    have h1 : i ∉ ts.filterMap id := by simpa using h
    unfold putBack
    exact putBack_ne h1
  | [], _, _, _ => by unfold putBack; rfl
  | some _ :: _, [], _, _ => by unfold putBack; rfl
  | none :: _, [], _, _ => by unfold putBack; rfl
theorem putBack_at {i : Nat} : ∀ {ts : List (Option Nat)} {ds : List D} {ρ : Rho} {j : Nat} {d : D}, (ts.filterMap id).Nodup → ts[j]? = some (some i) → ds[j]? = some d → i < ρ.length → (putBack ts ds ρ)[i]? = some (some (true, d))
  | some k :: ts, d0 :: ds, ρ, 0, d, hn, h1, h2, hl => by
    simp only [List.getElem?_cons_zero, Option.some.injEq] at h1 h2
    subst h1 h2
    have h3 : k ∉ ts.filterMap id := by
      have : (k :: ts.filterMap id).Nodup := by simpa using hn
      exact (List.nodup_cons.mp this).1
    unfold putBack
    rw [putBack_ne h3, get_set, if_pos rfl, if_pos hl]
  | some k :: ts, d0 :: ds, ρ, j + 1, d, hn, h1, h2, hl => by
    have : (k :: ts.filterMap id).Nodup := by simpa using hn
    unfold putBack
    exact putBack_at (List.nodup_cons.mp this).2 (by simpa using h1) (by simpa using h2) (by rw [List.length_set]; exact hl)
  | none :: ts, _ :: ds, ρ, j + 1, d, hn, h1, h2, hl => by
    unfold putBack
    exact putBack_at (by simpa using hn) (by simpa using h1) (by simpa using h2) hl
  | none :: ts, _ :: ds, ρ, 0, d, hn, h1, h2, hl => by simp at h1
  | [], _, _, _, _, _, h1, _, _ => by simp at h1
  | some _ :: _, [], _, _, _, _, _, h2, _ => by simp at h2
  | none :: _, [], _, _, _, _, _, h2, _ => by simp at h2
theorem tagIo_mem : ∀ {ts : List (Option Nat)} {j k : Nat}, k ∈ tagIo ts j ↔ ∃ n i, k = j + n ∧ ts[n]? = some (some i)
  | [], j, k => by simp [tagIo]
  | some i :: ts, j, k => by
    unfold tagIo
    rw [List.mem_cons, tagIo_mem]
    constructor
    · rintro (h | ⟨n, i', h1, h2⟩)
      · exact ⟨0, i, h, rfl⟩
      · exact ⟨n + 1, i', by omega, by simpa using h2⟩
    · rintro ⟨n, i', h1, h2⟩
      cases n with
      | zero => exact .inl h1
      | succ n => exact .inr ⟨n, i', by omega, by simpa using h2⟩
  | none :: ts, j, k => by
    unfold tagIo
    rw [tagIo_mem]
    constructor
    · rintro ⟨n, i', h1, h2⟩
      exact ⟨n + 1, i', by omega, by simpa using h2⟩
    · rintro ⟨n, i', h1, h2⟩
      cases n with
      | zero => simp at h2
      | succ n => exact ⟨n, i', by omega, by simpa using h2⟩
section
variable {X : Cx} {F : Frm} {pos p : Pos}
theorem xc_nil : PA X [] (rdC F [] mNil []) := by
  refine PA.mono pa_nil fun σ H Q ⟨B, A, ρ, ds, ρ', E, hm, k⟩ => ?_
  cases hm
  exact k [] H (Post.refl E) .nil
theorem Tagd.later {B : List Addr} {A : Nat → Addr} {H : Hp} {ρ : Rho} : True := trivial
theorem xc_plain {e : Expr} {es : List Expr} {m : M D} {ms : M (List D)} {ts : List (Option Nat)} {eff1 eff2 : List Nat} (ha : PE X e (rd F m [] eff1)) (hr : PA X es (rdC F ts ms eff2))
    (hs : starEach (e :: es) X.env = (false, eval e X.env) :: starEach es X.env := by rfl) : PA X (e :: es) (rdC F (none :: ts) (mCons m ms) (eff1 ++ eff2)) := by
  refine PA.mono (pa_cons ha hr hs) fun σ H Q ⟨B, A, ρ, ds, ρ2, E, hm, k⟩ => ?_
  obtain ⟨d, ρ1, ds', e1, e2, rfl⟩ := mCons_some hm
  refine ⟨B, A, ρ, d, ρ1, E, e1, fun v1 H1 P1 r1 => ⟨B, A, ρ1, ds', ρ2, P1.env, e2, fun vs H2 P2 r2 => ?_⟩⟩
  exact k _ H2 (P1.trans P2) (.plain (r1.later P2.gro P2.lv (by simp)).plain r2)
/-- an owned slot handed over, as it is behind all arguments -/
def mConsIo (i : Nat) (ms : M (List D)) : M (List D) := fun ρ => match ρ[i]? with
  | some (some (true, _)) => (match ms ρ with
    | some (ds, ρ2) => (match ρ2[i]? with
      | some (some (true, d)) => some (d :: ds, ρ2)
      | _ => none)
    | none => none)
  | _ => none
theorem xc_io {i : Nat} {x : Str} {es : List Expr} {ms : M (List D)} {ts : List (Option Nat)} {eff2 : List Nat} (hN : X.N[i]? = some x) (hv : Vis X.env.scope x) (hr : PA X es (rdC F ts ms eff2))
    (hd : (x == ("__debug__" : Str)) = false := by decide) (hcd : (x == ("__classdict__" : Str)) = false := by decide) (hs : starEach (.Name x p :: es) X.env = (false, eval (.Name x p) X.env) :: starEach es X.env := by rfl) : PA X (.Name x p :: es) (rdC F (some i :: ts) (mConsIo i ms) eff2) := by
  refine PA.mono (pa_cons (pe_var hN hv hd hcd) hr hs) fun σ H Q ⟨B, A, ρ, ds, ρ2, E, hm, k⟩ => ?_
  unfold mConsIo at hm
  split at hm
  · rename_i d0 q0
    split at hm
    · rename_i ds' ρ3 e2
      split at hm
      · rename_i d q
        cases hm
        exact ⟨_, (E.own i d0 q0).1, B, A, _, ds', ρ2, E, e2, fun vs H2 P2 r2 => k _ H2 P2 (.io q r2)⟩
      · cases hm
    · cases hm
  · cases hm
theorem Tagd.at_ {B : List Addr} {A : Nat → Addr} {H : Hp} {ρ : Rho} : ∀ {ts : List (Option Nat)} {vs : List V} {ds : List D}, Tagd F B A ρ H ts vs ds → vs.length = ds.length ∧ ts.length = ds.length ∧ ∀ (j : Nat) (v : V) (d : D), vs[j]? = some v → ds[j]? = some d → (∀ i, ts[j]? = some (some i) → v = .ref (A i) ∧ ρ[i]? = some (some (true, d))) ∧ (ts[j]? = some none → RelD F.K (Av F B A ρ) H v d)
  | _, _, _, .nil => ⟨rfl, rfl, fun j v d h => by simp at h⟩
  | _, _, _, .plain r t => by
    obtain ⟨h1, h2, h3⟩ := Tagd.at_ t
    refine ⟨congrArg (· + 1) h1, congrArg (· + 1) h2, fun j v d a b => ?_⟩
    cases j with
    | zero =>
      simp only [List.getElem?_cons_zero, Option.some.injEq] at a b
      subst a b
      exact ⟨fun i h => by simp at h, fun _ => r⟩
    | succ j => exact h3 j v d (by simpa using a) (by simpa using b) |>.imp (fun h i q => h i (by simpa using q)) fun h q => h (by simpa using q)
  | _, _, _, .io q t => by
    obtain ⟨h1, h2, h3⟩ := Tagd.at_ t
    refine ⟨congrArg (· + 1) h1, congrArg (· + 1) h2, fun j v d a b => ?_⟩
    cases j with
    | zero =>
      simp only [List.getElem?_cons_zero, Option.some.injEq] at a b
      subst a b
      exact ⟨fun i h => by
        simp only [List.getElem?_cons_zero, Option.some.injEq] at h
        subst h
        exact ⟨rfl, q⟩, fun h => by simp at h⟩
    | succ j => exact h3 j v d (by simpa using a) (by simpa using b) |>.imp (fun h i q => h i (by simpa using q)) fun h q => h (by simpa using q)
theorem call_spD {f : List D → Option (D × List D)} {ts : List (Option Nat)} {n : Nat} {B : List Addr} {A : Nat → Addr} {σ : L2.St} {H H1 : Hp} {ρ ρ1 : Rho} {eff : List Nat} {ds ds' : List D} {r : D} {vs : List V} {Q : VK} {E0 : XK} (hnd : (ts.filterMap id).Nodup) (P1 : Post F B A σ H ρ eff H1 ρ1) (tg : Tagd F B A ρ1 H1 ts vs ds) (hn : ts.length = n) (hf : f ds = some (r, ds')) (hl : ds'.length = ds.length)
    (k : ∀ v H', Post F B A σ H ρ (eff ++ ts.filterMap id) H' (putBack ts ds' ρ1) → RelD F.K (Av F B A (putBack ts ds' ρ1)) H' v r → Q v H') : spD F.K F.T (tagIo ts 0) n f vs H1 Q E0 := by
  obtain ⟨h1, h2, h3⟩ := tg.at_
  have hA0 : ∀ {j i : Nat}, ts[j]? = some (some i) → (match ts[j]? with | some (some i) => A i | _ => 0) = A i := fun h => by rw [h]
  have io_ : ∀ {j : Nat}, j ∈ tagIo ts 0 → ∃ i, ts[j]? = some (some i) := fun h => by
    obtain ⟨n, i, e, q⟩ := tagIo_mem.mp h
    rw [Nat.zero_add] at e
    exact ⟨i, e ▸ q⟩
  have io' : ∀ {j i : Nat}, ts[j]? = some (some i) → j ∈ tagIo ts 0 := fun {j i} h => tagIo_mem.mpr ⟨j, i, by omega, h⟩
  have dat : ∀ {j i : Nat}, ts[j]? = some (some i) → ∃ d, ds[j]? = some d ∧ ρ1[i]? = some (some (true, d)) := fun {j i} h => by
    have hj : j < ds.length := by rw [← h2]; exact (List.getElem?_eq_some_iff.mp h).1
    have hv : j < vs.length := by omega
    exact ⟨ds[j], by simp [hj], ((h3 j vs[j] ds[j] (by simp [hv]) (by simp [hj])).1 i h).2⟩
  have memI : ∀ {i : Nat}, i ∈ ts.filterMap id → ∃ j, ts[j]? = some (some i) := fun {i} h => by
    obtain ⟨o, ho, e⟩ := List.mem_filterMap.mp h
    obtain ⟨j, hj, e2⟩ := List.getElem_of_mem ho
    refine ⟨j, ?_⟩
    rw [List.getElem?_eq_getElem hj, e2]
    exact congrArg some e
  have I' : ∀ {j i : Nat}, ts[j]? = some (some i) → i ∈ ts.filterMap id := fun {j i} h => List.mem_filterMap.mpr ⟨some i, List.mem_of_getElem? h, rfl⟩
  have hI : ∀ i ∈ ts.filterMap id, ∃ d : D, ρ1[i]? = some (some (true, d)) := fun i hi => by
    obtain ⟨j, hj⟩ := memI hi
    obtain ⟨d, _, q⟩ := dat hj
    exact ⟨d, q⟩
  refine ⟨Av F B A ρ1, fun j => match ts[j]? with | some (some i) => A i | _ => 0, ds, r, ds', hf, by omega, by omega, ⟨h1, fun j v d a b => ⟨fun hj => ?_, fun hj => ?_⟩, fun j hj => ?_, fun a ha b hb z => ?_⟩, P1.env.occA, P1.env.tabs, fun v H' g hio rv => ?_⟩
  · obtain ⟨i, hi⟩ := io_ hj
    obtain ⟨e1, e2⟩ := (h3 j v d a b).1 i hi
    simp only [hA0 hi]
    exact ⟨e1, (P1.env.own i d e2).2⟩
  · refine (h3 j v d a b).2 ?_
    have hj2 : j < ts.length := by rw [h2]; exact (List.getElem?_eq_some_iff.mp b).1
    cases q : ts[j] with
    | none => rw [List.getElem?_eq_getElem hj2, q]
    | some i => exact absurd (io' (by rw [List.getElem?_eq_getElem hj2, q])) hj
  · obtain ⟨i, hi⟩ := io_ hj
    obtain ⟨d, e1, e2⟩ := dat hi
    simp only [hA0 hi]
    exact ⟨(List.getElem?_eq_some_iff.mp e1).1, .inr (.inr ⟨i, d, e2, rfl⟩)⟩
  · obtain ⟨i, hi⟩ := io_ ha
    obtain ⟨i', hi'⟩ := io_ hb
    simp only [hA0 hi, hA0 hi'] at z
    obtain ⟨d, _, e2⟩ := dat hi
    obtain ⟨d', _, e2'⟩ := dat hi'
    have e := P1.env.inj i i' d d' e2 e2' z
    subst e
    -- the same slot stands at one place alone
    have uniq : ∀ {ts : List (Option Nat)} {a b : Nat}, (ts.filterMap id).Nodup → ts[a]? = some (some i) → ts[b]? = some (some i) → a = b := by
      intro ts
      induction ts with
      | nil => intro a b _ h; simp at h
      | cons o ts ih =>
        intro a b hn ha hb
        cases o with
        | none =>
          have hn : (ts.filterMap id).Nodup := by simpa using hn
          cases a with
          | zero => simp at ha
          | succ a => cases b with
            | zero => simp at hb
            | succ b => exact congrArg (· + 1) (ih hn (by simpa using ha) (by simpa using hb))
        | some k =>
          have hn : (k :: ts.filterMap id).Nodup := by simpa using hn
          obtain ⟨hk, hn⟩ := List.nodup_cons.mp hn
          have no : ∀ {b : Nat}, ts[b]? = some (some k) → False := fun h => hk (List.mem_filterMap.mpr ⟨some k, List.mem_of_getElem? h, rfl⟩)
          cases a with
          | zero =>
            simp only [List.getElem?_cons_zero, Option.some.injEq] at ha
            subst ha
            cases b with
            | zero => rfl
            | succ b => exact (no (by simpa using hb)).elim
          | succ a => cases b with
            | zero =>
              simp only [List.getElem?_cons_zero, Option.some.injEq] at hb
              subst hb
              exact (no (by simpa using ha)).elim
            | succ b => exact congrArg (· + 1) (ih hn (by simpa using ha) (by simpa using hb))
    exact uniq hnd hi hi'
  · have g' : Gro (fun a => ∃ i ∈ ts.filterMap id, a = A i) H1 H' := g.mono fun a ⟨j, hj, z⟩ => by
      obtain ⟨i, hi⟩ := io_ hj
      simp only [hA0 hi] at z
      exact ⟨i, I' hi, z⟩
    have P2 : Post F B A σ H1 ρ1 (ts.filterMap id) H' (putBack ts ds' ρ1) := P1.env.writes hI g' putBack_len (fun i hi => putBack_ne hi) fun i hi => by
      obtain ⟨j, hj⟩ := memI hi
      obtain ⟨d, e1, e2⟩ := dat hj
      have hjl : j < ds'.length := by rw [hl]; exact (List.getElem?_eq_some_iff.mp e1).1
      have R := hio j (io' hj) ds'[j] (by simp [hjl])
      simp only [hA0 hj] at R
      exact ⟨ds'[j], putBack_at hnd hj (by simp [hjl]) (List.getElem?_eq_some_iff.mp e2).1, R⟩
    exact k v H' (P1.trans P2) (rv.mono (C := fun _ => False) (Gro.refl _) (fun a z => P2.lv.av z) fun _ z => z.elim)
/-- f(e, ..), f a def of the text -/
theorem x_call {k : Nat} {f : Addr} {fd : FuncData} {ps : List Str} {x : Str} {e : Expr} {es : List Expr} {fn : List D → Option (D × List D)} {ts : List (Option Nat)} {m : M (List D)} {eff : List Nat} (Fn : FnOk X.prog X.w X.K X.mg X.base CX0 k f fd ps (spD F.K F.T (tagIo ts 0) ps.length fn)) (hr : Room k X.A) (hg : Gl X x) (hm : X.mg x = some (.ref f)) (hk : PySem.W.keepIn X.K (.ref f) = true) (hb : Binds X.K fd ps [])
    (ha : PA X (e :: es) (rdC F ts m eff)) (hlen : ts.length = ps.length := by rfl) (hnd : (ts.filterMap id).Nodup := by decide)
    (hdb : (x == ("__debug__" : Str)) = false := by decide) (he : starEach (e :: es) X.env = (false, eval e X.env) :: starEach es X.env := by rfl) (hpl : (backTo pos (starEach es X.env)).any (·.1) = false := by rfl) :
    PE X (.Call (.Name x p) (e :: es) [] pos) (rd F (mCall fn ts m) [] (eff ++ ts.filterMap id)) := by
  refine PE.mono (pe_call Fn hr hg hm hk hb .nil pass0 ha hdb he hpl) fun σ H Q ⟨B, A, ρ, r, ρ', E, hm, kq⟩ => ?_
  unfold mCall at hm
  split at hm
  · rename_i ds ρ1 e1
    split at hm
    · rename_i r' ds' e2
      split at hm
      · rename_i hl
        cases hm
        refine ⟨B, A, ρ, ds, ρ1, E, e1, fun vs H1 P1 tg => ?_⟩
        show spD F.K F.T (tagIo ts 0) ps.length fn (vs ++ []) H1 Q _
        rw [List.append_nil]
        exact call_spD hnd P1 tg hlen e2 hl fun v H' P r => kq v H' P (.inl r)
      · cases hm
    · cases hm
  · cases hm
end
end PD

set_option Elab.async false
set_option linter.all false
set_option maxRecDepth 100000
set_option maxHeartbeats 2000000
/-! PDj: defs that answer with a new list or dict; calls with keywords. -/
namespace PD
open PySem PySem.Spec PyProof.Rows L2 GxR GenX OwnK
section
variable {X : Cx} {F : Frm} {pos p : Pos}
theorem s_retNew {e : Expr} {m : M D} {eff : List Nat} (h : PE X e (rdN F m eff)) (hnw : F.new = true := by rfl) : PS X (.Return (some e) pos) (rdS F (mRet m)) := PS.mono (ps_ret h) fun Dn σ H ⟨A, ρ, out, E, hm, k⟩ => by
  unfold mRet at hm
  cases q : m ρ with
  | none => rw [q] at hm; cases hm
  | some r =>
    rw [q] at hm
    cases hm
    exact ⟨[], A, ρ, r.1, r.2, E, q, fun p H' P E' hp r' => k A σ _ H' P.env (.fresh hnw E' (E'.occB p List.mem_cons_self).2.1 (.inr (.inl List.mem_cons_self)) r')⟩
theorem s_retOwn {i : Nat} {x : Str} (hN : X.N[i]? = some x) (hv : Vis X.env.scope x) (hio : i ∉ F.io := by decide) (hnw : F.new = true := by rfl) (hd : (x == ("__debug__" : Str)) = false := by decide) (hcd : (x == ("__classdict__" : Str)) = false := by decide) :
    PS X (.Return (some (.Name x p)) pos) (rdS F (mRet (mOwn i))) := PS.mono (ps_ret (pe_var hN hv hd hcd)) fun Dn σ H ⟨A, ρ, out, E, hm, k⟩ => by
  unfold mRet at hm
  cases q : mOwn i ρ with
  | none => rw [q] at hm; cases hm
  | some r =>
    rw [q] at hm
    cases hm
    unfold mOwn at q
    split at q
    · rename_i d q'
      cases q
      obtain ⟨h1, h2⟩ := E.own i d q'
      exact ⟨_, h1, k A σ _ H E (.fresh hnw E (E.nS i d q' hio).2.2 (.inr (.inr ⟨i, d, q', rfl⟩)) h2)⟩
    · cases q
end
def spN (K : PySem.W.Frag) (T : List Addr) (io : List Nat) (n : Nat) (f : List D → Option (D × List D)) : Sp := fun vs H Q _ => ∃ S A0 ds r ds', f ds = some (r, ds') ∧ ds.length = n ∧ ds'.length = n ∧ ArgsOk K S io A0 H vs ds ∧ (∀ a, S a → H a ≠ none) ∧ (∀ P ∈ T, TabG H P) ∧
  ∀ p H', Gro (fun a => ∃ j ∈ io, a = A0 j) H H' → (∀ j ∈ io, ∀ d', ds'[j]? = some d' → RelO K (fun a => S a ∨ a = p) H' (A0 j) d') → H p = none → RelO K (fun a => S a ∨ a = p) H' p r → Q (.ref p) H'
theorem spN_len {K : PySem.W.Frag} {T : List Addr} {io : List Nat} {n : Nat} {f : List D → Option (D × List D)} (vs : List V) (H : Hp) (Q : VK) (E : XK) (h : spN K T io n f vs H Q E) : vs.length = n := by
  obtain ⟨S, A0, ds, r, ds', _, h1, _, h2, _⟩ := h
  rw [h2.len, h1]
def runN (n : Nat) (io : List Nat) (mb : MS) (ds : List D) : Option (D × List D) := match mb (startR io n ds) with
  | some (.rt d ρ) => some (d, backR ρ ds.length)
  | _ => none
section
variable {P : Program} {w : World} {K : PySem.W.Frag} {mg : Str → Option Value} {base : Heap}
theorem okN {x qual : Str} {st : Stmt} {f c : Addr} {fd : FuncData} {N ps : List Str} {k : Nat} {T : List Addr} {io : List Nat} {mb : MS} (F : FunC K x qual st f fd c) (Sc : FnScope N ps (defScope st))
    (hbody : ∀ (A : Around) (outer : List Env) (s : Shared) (H : Hp) (E : XK) (S : Addr → Prop) (A0 : Nat → Addr), Room k (A.deeper (envOfC qual (defScope st) s.heap.objs.size f (.ref c))) →
      PSs (cxOf CX0 P w K mg base N qual (defScope st) f (.ref c) A outer s H E).nox (defBody st) (rdS ⟨K, S, io, T, H, A0, [], true⟩ mb)) :
    FnOk P w K mg base CX0 (k + 1) f fd ps (spN K T io ps.length (runN N.length io mb)) := by
  obtain ⟨oc, od, kV, doc, pm, an, ct, osl, rfl, lk, hcd⟩ := F.ex
  refine fn_of lk hcd Sc spN_len fun A outer s H vs Q E hr hsp => ?_
  obtain ⟨S, A0, ds, r, ds', hf, hn, hn', ha, occ, tabs, k⟩ := hsp
  refine ⟨_, (hbody A outer s H E S A0 hr).nox, A0, startR io N.length ds, ?_⟩
  unfold runN at hf
  split at hf
  · rename_i d ρ' e
    cases hf
    refine ⟨.rt r ρ', ev_start ha occ tabs true, e, fun A' σ' v H' E' r' => ?_⟩
    obtain ⟨p, rfl, h0, r2, rio⟩ := (show ∃ p, v = .ref p ∧ H p = none ∧ RelO K (fun a => S a ∨ a = p) H' p r ∧ ∀ j ∈ io, ∀ d', ρ'[j]? = some (some (true, d')) → RelO K (fun a => S a ∨ a = p) H' (A0 j) d' from r')
    refine k p H' E'.chg (fun j hj d' hd => ?_) h0 r2
    obtain ⟨h1, _, _, e, h4⟩ := E'.ios j hj
    obtain ⟨b, h5⟩ := back_get hd ⟨true, e, h4⟩
    rw [h4] at h5
    cases h5
    exact rio j hj d' h4
  · cases hf
end
/-! ### their calls -/
theorem gro_laid {C : Addr → Prop} {H1 H' : Hp} {p : Addr} {o : HO} (g : Gro C H1 H') (hp : H' p = some o) : Gro C (upd H1 p o) H' := by
  refine ⟨fun a o' h n t => ?_, fun P t => ?_, fun a h => ?_⟩
  · by_cases e : a = p
    · subst e
      rw [upd_same] at h
      cases h
      exact hp
    · rw [upd_ne e] at h
      exact g.keep a o' h n t
  · by_cases e : P = p
    · subst e
      obtain ⟨ps, h, q⟩ := t
      rw [upd_same] at h
      cases h
      exact ⟨ps, hp, q⟩
    · obtain ⟨ps, h, q⟩ := t
      rw [upd_ne e] at h
      exact g.tabs P ⟨ps, h, q⟩
  · by_cases e : a = p
    · subst e; rw [hp]; simp
    · rw [upd_ne e] at h
      exact g.live a h
def tagA (ts : List (Option Nat)) (A : Nat → Addr) (j : Nat) : Addr := match ts[j]? with
  | some (some i) => A i
  | _ => 0
theorem tagA_at {ts : List (Option Nat)} {A : Nat → Addr} {j i : Nat} (h : ts[j]? = some (some i)) : tagA ts A j = A i := by unfold tagA; rw [h]
theorem io_some {ts : List (Option Nat)} {j : Nat} (h : j ∈ tagIo ts 0) : ∃ i, ts[j]? = some (some i) := by
  obtain ⟨n, i, e, q⟩ := tagIo_mem.mp h
  rw [Nat.zero_add] at e
  exact ⟨i, e ▸ q⟩
theorem io_of {ts : List (Option Nat)} {j i : Nat} (h : ts[j]? = some (some i)) : j ∈ tagIo ts 0 := tagIo_mem.mpr ⟨j, i, by omega, h⟩
theorem tag_of {ts : List (Option Nat)} {i : Nat} (hi : i ∈ ts.filterMap id) : ∃ j : Nat, ts[j]? = some (some i) := by
  obtain ⟨o, ho, e⟩ := List.mem_filterMap.mp hi
  obtain ⟨j, hj, e2⟩ := List.getElem_of_mem ho
  exact ⟨j, by rw [List.getElem?_eq_getElem hj, e2]; exact congrArg some e⟩
/-- behind a call that writes -/
theorem call_back {ts : List (Option Nat)} {B : List Addr} {A : Nat → Addr} {σ : L2.St} {H H' : Hp} {ρ : Rho} {F : Frm} {ds ds' : List D} (hnd : (ts.filterMap id).Nodup) (E : Ev F B A σ H ρ) (dat : ∀ {j i : Nat}, ts[j]? = some (some i) → ∃ d, ds[j]? = some d ∧ ρ[i]? = some (some (true, d))) (hl : ds'.length = ds.length)
    (g : Gro (fun a => ∃ j ∈ tagIo ts 0, a = tagA ts A j) H H') (hio : ∀ j ∈ tagIo ts 0, ∀ d', ds'[j]? = some d' → RelO F.K (Av F B A ρ) H' (tagA ts A j) d') : Post F B A σ H ρ (ts.filterMap id) H' (putBack ts ds' ρ) := by
  have hI : ∀ i ∈ ts.filterMap id, ∃ d : D, ρ[i]? = some (some (true, d)) := fun i hi => by
    obtain ⟨j, hj⟩ := tag_of hi
    obtain ⟨d, _, q⟩ := dat hj
    exact ⟨d, q⟩
  refine E.writes hI (g.mono fun a ⟨j, hj, z⟩ => ?_) putBack_len (fun i hi => putBack_ne hi) fun i hi => ?_
  · obtain ⟨i, hi⟩ := io_some hj
    rw [tagA_at hi] at z
    exact ⟨i, List.mem_filterMap.mpr ⟨some i, List.mem_of_getElem? hi, rfl⟩, z⟩
  · obtain ⟨j, hj⟩ := tag_of hi
    obtain ⟨d, e1, e2⟩ := dat hj
    have hjl : j < ds'.length := by rw [hl]; exact (List.getElem?_eq_some_iff.mp e1).1
    have R := hio j (io_of hj) ds'[j] (by simp [hjl])
    rw [tagA_at hj] at R
    exact ⟨ds'[j], putBack_at hnd hj (by simp [hjl]) (List.getElem?_eq_some_iff.mp e2).1, R⟩
theorem tag_uniq {i : Nat} : ∀ {ts : List (Option Nat)} {a b : Nat}, (ts.filterMap id).Nodup → ts[a]? = some (some i) → ts[b]? = some (some i) → a = b
  | [], a, _, _, h, _ => by simp at h
  | none :: ts, a, b, hn, ha, hb => by
    have hn : (ts.filterMap id).Nodup := by simpa using hn
    cases a with
    | zero => simp at ha
    | succ a => cases b with
      | zero => simp at hb
      | succ b => exact congrArg (· + 1) (tag_uniq hn (by simpa using ha) (by simpa using hb))
  | some k :: ts, a, b, hn, ha, hb => by
    have hn : (k :: ts.filterMap id).Nodup := by simpa using hn
    obtain ⟨hk, hn⟩ := List.nodup_cons.mp hn
    have no : ∀ {b : Nat}, ts[b]? = some (some k) → False := fun h => hk (List.mem_filterMap.mpr ⟨some k, List.mem_of_getElem? h, rfl⟩)
    cases a with
    | zero =>
      simp only [List.getElem?_cons_zero, Option.some.injEq] at ha
      subst ha
      cases b with
      | zero => rfl
      | succ b => exact (no (by simpa using hb)).elim
    | succ a => cases b with
      | zero =>
        simp only [List.getElem?_cons_zero, Option.some.injEq] at hb
        subst hb
        exact (no (by simpa using ha)).elim
      | succ b => exact congrArg (· + 1) (tag_uniq hn (by simpa using ha) (by simpa using hb))
theorem call_args {ts : List (Option Nat)} {B : List Addr} {A : Nat → Addr} {σ : L2.St} {H : Hp} {ρ : Rho} {F : Frm} {ds : List D} {vs : List V} (hnd : (ts.filterMap id).Nodup) (E : Ev F B A σ H ρ) (tg : Tagd F B A ρ H ts vs ds) :
    ArgsOk F.K (Av F B A ρ) (tagIo ts 0) (tagA ts A) H vs ds ∧ ts.length = ds.length ∧ ∀ {j i : Nat}, ts[j]? = some (some i) → ∃ d, ds[j]? = some d ∧ ρ[i]? = some (some (true, d)) := by
  obtain ⟨h1, h2, h3⟩ := tg.at_
  have dat : ∀ {j i : Nat}, ts[j]? = some (some i) → ∃ d, ds[j]? = some d ∧ ρ[i]? = some (some (true, d)) := fun {j i} h => by
    have hj : j < ds.length := by rw [← h2]; exact (List.getElem?_eq_some_iff.mp h).1
    have hv : j < vs.length := by omega
    exact ⟨ds[j], by simp [hj], ((h3 j vs[j] ds[j] (by simp [hv]) (by simp [hj])).1 i h).2⟩
  refine ⟨⟨h1, fun j v d a b => ⟨fun hj => ?_, fun hj => ?_⟩, fun j hj => ?_, fun a ha b hb z => ?_⟩, h2, dat⟩
  · obtain ⟨i, hi⟩ := io_some hj
    obtain ⟨e1, e2⟩ := (h3 j v d a b).1 i hi
    rw [tagA_at hi]
    exact ⟨e1, (E.own i d e2).2⟩
  · refine (h3 j v d a b).2 ?_
    have hj2 : j < ts.length := by rw [h2]; exact (List.getElem?_eq_some_iff.mp b).1
    cases q : ts[j] with
    | none => rw [List.getElem?_eq_getElem hj2, q]
    | some i => exact absurd (io_of (by rw [List.getElem?_eq_getElem hj2, q])) hj
  · obtain ⟨i, hi⟩ := io_some hj
    obtain ⟨d, e1, e2⟩ := dat hi
    rw [tagA_at hi]
    exact ⟨(List.getElem?_eq_some_iff.mp e1).1, .inr (.inr ⟨i, d, e2, rfl⟩)⟩
  · obtain ⟨i, hi⟩ := io_some ha
    obtain ⟨i', hi'⟩ := io_some hb
    rw [tagA_at hi, tagA_at hi'] at z
    obtain ⟨d, _, e2⟩ := dat hi
    obtain ⟨d', _, e2'⟩ := dat hi'
    have e := E.inj i i' d d' e2 e2' z
    subst e
    exact tag_uniq hnd hi hi'
theorem call_spN {f : List D → Option (D × List D)} {ts : List (Option Nat)} {n : Nat} {F : Frm} {B : List Addr} {A : Nat → Addr} {σ : L2.St} {H H1 : Hp} {ρ ρ1 : Rho} {eff : List Nat} {ds ds' : List D} {r : D} {vs : List V} {Q : VK} {E0 : XK} (hnd : (ts.filterMap id).Nodup) (P1 : Post F B A σ H ρ eff H1 ρ1) (tg : Tagd F B A ρ1 H1 ts vs ds) (hn : ts.length = n) (hf : f ds = some (r, ds')) (hl : ds'.length = ds.length)
    (k : ∀ p H', Post F B A σ H ρ (eff ++ ts.filterMap id) H' (putBack ts ds' ρ1) → Ev F (p :: B) A σ H' (putBack ts ds' ρ1) → p ∉ B → RelO F.K (Av F (p :: B) A (putBack ts ds' ρ1)) H' p r → Q (.ref p) H') : spN F.K F.T (tagIo ts 0) n f vs H1 Q E0 := by
  obtain ⟨ha, h2, dat⟩ := call_args hnd P1.env tg
  refine ⟨Av F B A ρ1, tagA ts A, ds, r, ds', hf, by omega, by omega, ha, P1.env.occA, P1.env.tabs, fun p H' g hio hp rv => ?_⟩
  have hS : ∀ {z : List Addr} {ρ' : Rho} {e : List Nat}, Lv e ρ1 ρ' → ∀ a, Av F (p :: B) A ρ' a → Av F B A ρ1 a ∨ a = p := fun l a z => (av_cons a z).imp_left fun z => l.av z
  have hio2 : ∀ j ∈ tagIo ts 0, ∀ d', ds'[j]? = some d' → RelO F.K (Av F B A ρ1) H' (tagA ts A j) d' := fun j hj d' hd => (hio j hj d' hd).mono (C := fun _ => False) (Gro.refl _) (fun a z => .inl z) (fun _ z => z.elim) id
  have P2 := call_back hnd P1.env dat hl g hio2
  have rs := rv.some
  cases ho : H' p with
  | none => exact absurd ho rs
  | some o =>
    have E2 : Ev F (p :: B) A σ (L2.upd H1 p o) ρ1 := P1.env.hide hp (Ext.new hp) (by rw [upd_same]; simp)
    have P3 := call_back hnd E2 dat hl (gro_laid g ho) fun j hj d' hd => (hio j hj d' hd).mono (C := fun _ => False) (Gro.refl _) (fun a z => av_cons a z) (fun _ z => z.elim) id
    exact k p H' (P1.trans P2) P3.env (fun z => (P1.env.occB p z).1 hp) (rv.mono (C := fun _ => False) (Gro.refl _) (fun a z => (av_cons a z).imp_left fun z => P2.lv.av z) (fun _ z => z.elim) id)
section
variable {X : Cx} {F : Frm} {pos p : Pos}
/-- f(e, ..), f a def that answers with a new thing -/
theorem x_callN {k : Nat} {f : Addr} {fd : FuncData} {ps : List Str} {x : Str} {e : Expr} {es : List Expr} {fn : List D → Option (D × List D)} {ts : List (Option Nat)} {m : M (List D)} {eff : List Nat} (Fn : FnOk X.prog X.w X.K X.mg X.base CX0 k f fd ps (spN F.K F.T (tagIo ts 0) ps.length fn)) (hr : Room k X.A) (hg : Gl X x) (hm : X.mg x = some (.ref f)) (hk : PySem.W.keepIn X.K (.ref f) = true) (hb : Binds X.K fd ps [])
    (ha : PA X (e :: es) (rdC F ts m eff)) (hlen : ts.length = ps.length := by rfl) (hnd : (ts.filterMap id).Nodup := by decide)
    (hdb : (x == ("__debug__" : Str)) = false := by decide) (he : starEach (e :: es) X.env = (false, eval e X.env) :: starEach es X.env := by rfl) (hpl : (backTo pos (starEach es X.env)).any (·.1) = false := by rfl) :
    PE X (.Call (.Name x p) (e :: es) [] pos) (rdN F (mCall fn ts m) (eff ++ ts.filterMap id)) := by
  refine PE.mono (pe_call Fn hr hg hm hk hb .nil pass0 ha hdb he hpl) fun σ H Q ⟨B, A, ρ, r, ρ', E, hm, kq⟩ => ?_
  unfold mCall at hm
  split at hm
  · rename_i ds ρ1 e1
    split at hm
    · rename_i r' ds' e2
      split at hm
      · rename_i hl
        cases hm
        refine ⟨B, A, ρ, ds, ρ1, E, e1, fun vs H1 P1 tg => ?_⟩
        show spN F.K F.T (tagIo ts 0) ps.length fn (vs ++ []) H1 Q _
        rw [List.append_nil]
        exact call_spN hnd P1 tg hlen e2 hl fun p H' P E' hp r => kq p H' P E' hp r
      · cases hm
    · cases hm
  · cases hm
end
end PD

set_option Elab.async false
set_option linter.all false
set_option maxRecDepth 100000
set_option maxHeartbeats 2000000
/-! PDk: more rules on data: -x, i ** j, a < b < c, tuple targets, name[k] op= e. -/
namespace PD
open PySem PySem.Spec PyProof.Rows L2 GxR GenX OwnK
section
variable {X : Cx} {F : Frm} {pos p : Pos} {K : PySem.W.Frag}
/-! ### -x, i ** j -/
def mUn (g : D → Option D) (m : M D) : M D := fun ρ => match m ρ with
  | some (d, ρ1) => (match g d with
    | some r => some (r, ρ1)
    | none => none)
  | none => none
theorem mUn_some {g : D → Option D} {m : M D} {ρ ρ1 : Rho} {r : D} (h : mUn g m ρ = some (r, ρ1)) : ∃ d, m ρ = some (d, ρ1) ∧ g d = some r := by
  unfold mUn at h
  split at h
  · rename_i d ρ2 e1
    split at h
    · rename_i r' e2
      cases h
      exact ⟨d, e1, e2⟩
    · cases h
  · cases h
def gNeg : D → Option D
  | .int i => some (.int (-i))
  | _ => none
theorem x_neg {a : Expr} {m : M D} {dep eff : List Nat} (ha : PE X a (rd F m dep eff)) : PE X (.UnaryOp .USub a pos) (rd F (mUn gNeg m) [] eff) := by
  refine PE.mono (pe_un un_neg ha) fun σ H Q ⟨B, A, ρ, d, ρ1, E, hm, k⟩ => ?_
  obtain ⟨d1, e1, e2⟩ := mUn_some hm
  unfold gNeg at e2
  split at e2
  · cases e2
    exact ⟨B, A, ρ, _, ρ1, E, e1, fun v H1 P r => ⟨_, (r.rr P.env).int, k _ H1 P (.inl (.int _))⟩⟩
  · cases e2
instance {i j : Int} : Decidable (CPow i j) := inferInstanceAs (Decidable (_ ∧ _ ∧ _))
def gPow : D → D → Option D
  | .int i, .int j => if CPow i j then some (.int (i ^ j.toNat)) else none
  | _, _ => none
theorem o_pow : OpR X (binaryOp .Pow) (rop K gPow) := by
  intro pins s σ H x y v u Q I rx ry ⟨S, d1, d2, d, r1, r2, e, occ, k⟩
  unfold gPow at e
  split at e
  · split at e
    · rename_i hc
      cases e
      exact op_pow pins s σ H x y v u Q I rx ry ⟨_, _, r1.int, r2.int, hc, k _ H (Ext.refl H) (.int _)⟩
    · cases e
  · cases e
/-! ### a op b op' c -/
def mChain (g g' : D → D → Option D) (ma mb mc : M D) : M D := fun ρ => match ma ρ with
  | some (a, ρ1) => (match mb ρ1 with
    | some (b, ρ2) => (match g a b with
      | some (.bool true) => (match mc ρ2 with
        | some (c, ρ3) => (match g' b c with
          | some d => some (d, ρ3)
          | none => none)
        | none => none)
      | some (.bool false) => some (.bool false, ρ2)
      | _ => none)
    | none => none)
  | none => none
theorem rd_chain {g g' : D → D → Option D} {ma mb mc : M D} {da ea db eb dc ec : List Nat} (h1 : ∀ i ∈ da, i ∉ eb) (h2 : ∀ i ∈ db, i ∉ ec) {σ : L2.St} {H : Hp} {Q : VK} (h : rd F (mChain g g' ma mb mc) [] (ea ++ eb ++ ec) σ H Q) : tChain (rop F.K g) (rop F.K g') (rd F ma da ea) (rd F mb db eb) (rd F mc dc ec) σ H Q := by
  obtain ⟨B, A, ρ, d, ρ', E, hm, k⟩ := h
  unfold mChain at hm
  split at hm
  · rename_i a ρ1 e1
    split at hm
    · rename_i b ρ2 e2
      refine ⟨B, A, ρ, a, ρ1, E, e1, fun v1 H1 P1 r1 => ⟨B, A, ρ1, b, ρ2, P1.env, e2, fun v2 H2 P2 r2 => ?_⟩⟩
      have P12 := P1.trans P2
      split at hm
      · rename_i e3
        split at hm
        · rename_i c ρ3 e4
          split at hm
          · rename_i d' e5
            obtain ⟨rfl, rfl⟩ : d' = d ∧ ρ3 = ρ' := by cases hm; exact ⟨rfl, rfl⟩
            refine ⟨Av F B A ρ2, a, b, _, (r1.later P2.gro P2.lv h1).rr P2.env, r2.rr P2.env, e3, P2.env.occA, fun z H3 g3 r3 => ⟨true, (by cases r3; rfl), ?_⟩⟩
            have P3 := P12.ext g3
            simp only [if_true]
            refine ⟨B, A, ρ2, c, _, P3.env, e4, fun v3 H4 P4 r4 => ?_⟩
            refine ⟨_, b, c, _, ((r2.later (eff := []) g3.gro (Lv.refl _) (by simp)).later P4.gro P4.lv h2).rr P4.env, r4.rr P4.env, e5, P4.env.occA, fun v5 H5 g5 r5 => ?_⟩
            have PP := (P3.trans P4).ext g5
            exact k v5 H5 PP (.inl r5)
          · cases hm
        · cases hm
      · rename_i e3
        cases hm
        refine ⟨Av F B A ρ', a, b, _, (r1.later P2.gro P2.lv h1).rr P2.env, r2.rr P2.env, e3, P2.env.occA, fun z H3 g3 r3 => ⟨false, (by cases r3; rfl), ?_⟩⟩
        simp only [Bool.false_eq_true, if_false]
        have P3 := P12.ext g3
        exact k _ H3 ⟨P3.env, P3.gro, P3.lv.more fun i z => List.mem_append_left _ z⟩ (.inl (.bl false))
      · cases hm
    · cases hm
  · cases hm
theorem x_chain {op op' : CmpOp} {a b c : Expr} {g g' : D → D → Option D} {ma mb mc : M D} {da ea db eb dc ec : List Nat} (ho : OpR X (compareOp op) (rop F.K g)) (ho' : OpR X (compareOp op') (rop F.K g')) (ha : PE X a (rd F ma da ea)) (hb : PE X b (rd F mb db eb)) (hc : PE X c (rd F mc dc ec))
    (h1 : ∀ i ∈ da, i ∉ eb := by decide) (h2 : ∀ i ∈ db, i ∉ ec := by decide) (hm : lastMarks [op, op'] [b, c] = false := by with_unfolding_all rfl) : PE X (.Compare a [op, op'] [b, c] pos) (rd F (mChain g g' ma mb mc) [] (ea ++ eb ++ ec)) :=
  PE.mono (pe_chain ho ho' ha hb hc hm) fun σ H Q h => rd_chain h1 h2 h
/-! ### (a, b, ..) = a tuple -/
def GKeep (g : D → Rho → Option Rho) : Prop := ∀ d ρ ρ', g d ρ = some ρ' → ∀ (i : Nat) (e : D), ρ'[i]? = some (some (true, e)) → ∃ e0 : D, ρ[i]? = some (some (true, e0))
theorem gSet_keep {i : Nat} : GKeep (gSet i) := fun d ρ ρ' h => (gSet_lv (vs := [i]) List.mem_cons_self h).own
def gsNil : List D → Rho → Option Rho
  | [], ρ => some ρ
  | _, _ => none
def gsCons (g : D → Rho → Option Rho) (gs : List D → Rho → Option Rho) : List D → Rho → Option Rho
  | d :: ds, ρ => (match g d ρ with
    | some ρ1 => gs ds ρ1
    | none => none)
  | _, _ => none
def gTupT (n : Nat) (gs : List D → Rho → Option Rho) : D → Rho → Option Rho
  | .tuple ds, ρ => if ds.length = n then gs ds ρ else none
  | _, _ => none
def GsKeep (g : List D → Rho → Option Rho) : Prop := ∀ d ρ ρ', g d ρ = some ρ' → ∀ (i : Nat) (e : D), ρ'[i]? = some (some (true, e)) → ∃ e0 : D, ρ[i]? = some (some (true, e0))
theorem gsCons_some {g : D → Rho → Option Rho} {gs : List D → Rho → Option Rho} {d : D} {ds : List D} {ρ ρ' : Rho} (h : gsCons g gs (d :: ds) ρ = some ρ') : ∃ ρ1, g d ρ = some ρ1 ∧ gs ds ρ1 = some ρ' := by
  have h : (match g d ρ with | some ρ1 => gs ds ρ1 | none => none) = some ρ' := h
  split at h
  · rename_i ρ1 e1; exact ⟨ρ1, e1, h⟩
  · cases h
theorem RelDs.inv {K : PySem.W.Frag} {S : Addr → Prop} {H : Hp} {us : List V} {d : D} {ds : List D} (r : RelDs K S H us (d :: ds)) : ∃ v r, us = v :: r ∧ RelD K S H v d ∧ RelDs K S H r ds := by
  cases r with
  | cons a b => exact ⟨_, _, rfl, a, b⟩
theorem RelDs.inv0 {K : PySem.W.Frag} {S : Addr → Prop} {H : Hp} {us : List V} (r : RelDs K S H us []) : us = [] := by cases r; rfl
theorem gsNil_keep : GsKeep gsNil := fun d ρ ρ' h i e q => by
  cases d with
  | nil => cases h; exact ⟨e, q⟩
  | cons _ _ => cases h
theorem gsCons_keep {g : D → Rho → Option Rho} {gs : List D → Rho → Option Rho} (h1 : GKeep g) (h2 : GsKeep gs) : GsKeep (gsCons g gs) := fun d ρ ρ' h i e q => by
  cases d with
  | nil => cases h
  | cons d ds =>
    obtain ⟨ρ1, e1, h⟩ := gsCons_some h
    obtain ⟨e2, q2⟩ := h2 _ _ _ h i e q
    exact h1 _ _ _ e1 i e2 q2
theorem gTupT_keep {n : Nat} {gs : List D → Rho → Option Rho} (h2 : GsKeep gs) : GKeep (gTupT n gs) := fun d ρ ρ' h => by
  unfold gTupT at h
  split at h
  · split at h
    · exact h2 _ _ _ h
    · cases h
  · cases h
def rdGs (F : Frm) (B : List Addr) (m : List D → Rho → Option Rho) : TGs := fun vs σ H Q => ∃ A ρ ds ρ', Ev F B A σ H ρ ∧ RelDs F.K (Av F B A ρ) H vs ds ∧ m ds ρ = some ρ' ∧ ∀ σ' H', Ev F B A σ' H' ρ' → Gro (fun _ => False) H H' → Q σ' H'
theorem av_keep {B : List Addr} {A : Nat → Addr} {ρ ρ' : Rho} (h : ∀ (i : Nat) (e : D), ρ'[i]? = some (some (true, e)) → ∃ e0 : D, ρ[i]? = some (some (true, e0))) : ∀ a, Av F B A ρ' a → Av F B A ρ a := fun a z => by
  rcases z with z | z | ⟨i, d, e, z⟩
  · exact .inl z
  · exact .inr (.inl z)
  · obtain ⟨e0, q⟩ := h i d e
    exact .inr (.inr ⟨i, e0, q, z⟩)
theorem gs_nil {B : List Addr} : PGs X [] (rdGs F B gsNil) := ⟨fun pins s σ H vs us Q I r ⟨A, ρ, ds, ρ', E, rr, hm, k⟩ => by
  cases rr with
  | nil =>
    cases hm
    exact pgs_nil.run pins s σ H [] us Q I r ⟨rfl, k σ H E (Gro.refl _)⟩
  | cons _ _ => cases hm⟩
theorem gs_cons {B : List Addr} {e : Expr} {es : List Expr} {g : D → Rho → Option Rho} {gs : List D → Rho → Option Rho} (h1 : PG X e (rdG F B g)) (h2 : PGs X es (rdGs F B gs)) (hk : GKeep g)
    (hs : (assignEach (e :: es) X.env).map (·.2) = assign e X.env :: (assignEach es X.env).map (·.2) := by rfl) : PGs X (e :: es) (rdGs F B (gsCons g gs)) := ⟨fun pins s σ H vs us Q I r ⟨A, ρ, ds, ρ', E, rr, hm, k⟩ => by
  cases ds with
  | nil => cases hm
  | cons d ds' =>
    obtain ⟨ρ1, e1, hm⟩ := gsCons_some hm
    obtain ⟨v, vs', rfl, r1, rr⟩ := rr.inv
    refine (pgs_cons h1 h2 hs).run pins s σ H _ us Q I r ⟨v, vs', rfl, A, ρ, d, ρ1, E, r1, e1, fun σ1 H1 E1 g1 => ?_⟩
    exact ⟨A, ρ1, ds', ρ', E1, (rr.mono g1 (fun a z => z) fun _ z => z.elim).mono (C := fun _ => False) (Gro.refl _) (av_keep (hk _ _ _ e1)) fun _ z => z.elim, hm, fun σ2 H2 E2 g2 => k σ2 H2 E2 (g1.trans g2)⟩⟩
theorem g_tup {B : List Addr} {es : List Expr} {kk : Nat} {gs : List D → Rho → Option Rho} {n : Nat} (hc : X.calm = true) (h : PGs X es (rdGs F B gs)) (hK : X.K = F.K := by rfl)
    (hn : (assignEach es X.env).length = n := by rfl) (hst : (assignEach es X.env).findIdx? (·.1) = none := by rfl) : PG X (.Tuple es kk pos) (rdG F B (gTupT n gs)) :=
  PG.mono (pg_tup hc h hn hst) fun v σ H Q ⟨A, ρ, d, ρ', E, r, hm, k⟩ => by
    unfold gTupT at hm
    split at hm
    · rename_i ds
      split at hm
      · rename_i hl
        obtain ⟨a, xs, rfl, h1, q1⟩ := RR.tuple (.inl r)
        exact ⟨a, xs, rfl, hK ▸ h1, by rw [q1.length]; exact hl, A, ρ, ds, ρ', E, q1, hm, k⟩
      · cases hm
    · cases hm
def mPar (i j : Nat) (m : M (List D)) : MS := fun ρ => match m ρ with
  | some ([d1, d2], ρ1) => if i < ρ1.length ∧ j < ρ1.length then some (.nx ((ρ1.set i (some (false, d1))).set j (some (false, d2)))) else none
  | _ => none
theorem s_par {i j : Nat} {x y : Str} {a b : Expr} {m : M (List D)} {eff : List Nat} {px py pt : Pos} {kt k2 pt2} (hc : X.calm = true) (hN : X.N.Nodup) (hi : X.N[i]? = some x) (hj : X.N[j]? = some y) (hij : i ≠ j)
    (hx : X.env.scope.names.lookup x = some .local) (hy : X.env.scope.names.lookup y = some .local) (hio : i ∉ F.io) (hjo : j ∉ F.io) (ha : PA X [a, b] (rdA F m [] eff))
    (hw : swappedStores [.Tuple [.Name x px, .Name y py] kt pt] (.Tuple [a, b] k2 pt2) X.env = pure (some [x, y]))
    (hs : swapsWithSole [.Tuple [.Name x px, .Name y py] kt pt] (.Tuple [a, b] k2 pt2) pos.line X.env = pure false := by rfl) :
    PS X (.Assign [.Tuple [.Name x px, .Name y py] kt pt] (.Tuple [a, b] k2 pt2) pos) (rdS F (mPar i j m)) :=
  PS.mono (ps_par hc hN hi hj hij hx hy ha hw hs) fun Dn σ H ⟨A, ρ, out, E, hm, k⟩ => by
    unfold mPar at hm
    split at hm
    · rename_i d1 d2 ρ1 e1
      split at hm
      · rename_i hl
        cases hm
        refine ⟨[], A, ρ, _, ρ1, E, e1, fun vs H1 P r => ?_⟩
        cases r with
        | cons r1 t => cases t with
          | cons r2 t => cases t with
            | nil =>
              have E1 := P.env.setPlain hio hl.1 r1.plain
              have kp := gSet_keep (i := i) d1 ρ1 (ρ1.set i (some (false, d1))) (by unfold gSet; rw [if_pos hl.1])
              exact ⟨_, _, rfl, k A _ H1 (E1.setPlain hjo (by rw [List.length_set]; exact hl.2) (r2.plain.mono (C := fun _ => False) (Gro.refl _) (av_keep kp) fun _ z => z.elim))⟩
      · cases hm
    · cases hm
/-- in a comprehension -/
def rdWs (F : Frm) (vs : List Nat) (m : List D → Rho → Option Rho) : TGs := fun us σ H Q => ∃ B A ρ ds ρ', Ev F B A σ H ρ ∧ RelDs F.K (Av F B A ρ) H us ds ∧ m ds ρ = some ρ' ∧ ∀ σ' H', Ev F B A σ' H' ρ' → Gro (fun _ => False) H H' → L2.wipe σ' vs = L2.wipe σ vs → Lv vs ρ ρ' → Q σ' H'
variable {vs : List Nat}
theorem gs_nilW : PGs X [] (rdWs F vs gsNil) := ⟨fun pins s σ H us zs Q I r ⟨B, A, ρ, ds, ρ', E, rr, hm, k⟩ => by
  cases rr with
  | nil =>
    cases hm
    exact pgs_nil.run pins s σ H [] zs Q I r ⟨rfl, k σ H E (Gro.refl _) rfl ((Lv.refl _).more fun _ h => nomatch h)⟩
  | cons _ _ => cases hm⟩
theorem gs_consW {e : Expr} {es : List Expr} {g : D → Rho → Option Rho} {gs : List D → Rho → Option Rho} (h1 : PG X e (rdW F vs g)) (h2 : PGs X es (rdWs F vs gs))
    (hs : (assignEach (e :: es) X.env).map (·.2) = assign e X.env :: (assignEach es X.env).map (·.2) := by rfl) : PGs X (e :: es) (rdWs F vs (gsCons g gs)) := ⟨fun pins s σ H us zs Q I r ⟨B, A, ρ, ds, ρ', E, rr, hm, k⟩ => by
  cases ds with
  | nil => cases hm
  | cons d ds' =>
    obtain ⟨ρ1, e1, hm⟩ := gsCons_some hm
    obtain ⟨v, vs', rfl, r1, rr⟩ := rr.inv
    refine (pgs_cons h1 h2 hs).run pins s σ H _ zs Q I r ⟨v, vs', rfl, B, A, ρ, d, ρ1, E, r1, e1, fun σ1 H1 E1 g1 w1 l1 => ?_⟩
    exact ⟨B, A, ρ1, ds', ρ', E1, (rr.mono g1 (fun a z => z) fun _ z => z.elim).mono (C := fun _ => False) (Gro.refl _) (av_keep l1.own) fun _ z => z.elim, hm, fun σ2 H2 E2 g2 w2 l2 => k σ2 H2 E2 (g1.trans g2) (w2.trans w1) (l1.trans' l2)⟩⟩
theorem g_tupW {es : List Expr} {kk : Nat} {gs : List D → Rho → Option Rho} {n : Nat} (hc : X.calm = true) (h : PGs X es (rdWs F vs gs)) (hK : X.K = F.K := by rfl)
    (hn : (assignEach es X.env).length = n := by rfl) (hst : (assignEach es X.env).findIdx? (·.1) = none := by rfl) : PG X (.Tuple es kk pos) (rdW F vs (gTupT n gs)) :=
  PG.mono (pg_tup hc h hn hst) fun v σ H Q ⟨B, A, ρ, d, ρ', E, r, hm, k⟩ => by
    unfold gTupT at hm
    split at hm
    · rename_i ds
      split at hm
      · rename_i hl
        obtain ⟨a, xs, rfl, h1, q1⟩ := RR.tuple (.inl r)
        exact ⟨a, xs, rfl, hK ▸ h1, by rw [q1.length]; exact hl, B, A, ρ, ds, ρ', E, q1, hm, k⟩
      · cases hm
    · cases hm
end
end PD

set_option Elab.async false
set_option linter.all false
set_option maxRecDepth 100000
set_option maxHeartbeats 2000000
/-! PDl: dict comprehensions, what is never reached, name[k] op= e. -/
namespace PD
open PySem PySem.Spec PyProof.Rows L2 GxR GenX OwnK
section
variable {X : Cx} {F : Frm} {pos p : Pos} {tg : Expr}
/-! ### what is never reached -/
def mBad : MS := fun _ => none
theorem ss_bad {b : List Stmt} : PSs X b (rdS F mBad) := ⟨fun pins s σ H Dn I ⟨A, ρ, out, E, hm, k⟩ => nomatch hm⟩
theorem s_bad {b : Stmt} : PS X b (rdS F mBad) := ⟨fun pins s σ H Dn I ⟨A, ρ, out, E, hm, k⟩ => nomatch hm⟩
def mBadE : M D := fun _ => none
theorem x_bad {e : Expr} {dep eff : List Nat} : PE X e (rd F mBadE dep eff) := ⟨fun pins s σ H Q I ⟨B, A, ρ, d, ρ', E, hm, k⟩ => nomatch hm⟩
/-! ### {k: v for .. in ..} -/
def dcL (g : D → Rho → Option Rho) (mt : M Bool) (mk mv : M D) (vs : List Nat) : List D → List (D × D) → Rho → Option (List (D × D) × Rho)
  | [], acc, ρ => some (acc, ρ)
  | d :: r, acc, ρ => match g d ρ with
    | none => none
    | some ρ1 => (match mt ρ1 with
      | some (true, ρ2) => (match mk ρ2 with
        | some (kd, ρk) => (match mv ρk with
          | some (y, ρ3) => (match keyD kd with
            | some key => if acc.length < sizeLine then dcL g mt mk mv vs r (gPut.dput acc key y) (wipeR ρ3 vs) else none
            | none => none)
          | none => none)
        | none => none)
      | some (false, ρ2) => dcL g mt mk mv vs r acc (wipeR ρ2 vs)
      | none => none)
def mDc (mi : M (List D)) (g : D → Rho → Option Rho) (mt : M Bool) (mk mv : M D) (vs : List Nat) : M D := fun ρ => match mi ρ with
  | some (ds, ρ1) => (match dcL g mt mk mv vs ds [] (wipeR ρ1 vs) with
    | some (acc, ρ2) => some (.dict acc, wipeR ρ2 vs)
    | none => none)
  | none => none
theorem rd_dc {mi : M (List D)} {g : D → Rho → Option Rho} {mt : M Bool} {mk mv : M D} {effi efft effk effe vs : List Nat} (hv : ∀ i ∈ vs, i ∉ F.io) {σ : L2.St} {H : Hp} {Q : VK} (h : rdN F (mDc mi g mt mk mv vs) (effi ++ (vs ++ (efft ++ (effk ++ effe)))) σ H Q) :
    tDc (rdI F mi effi) (wE F vs g) (tE F mt efft) (eE F mk [] effk) (eE F mv [] effe) vs σ H Q := by
  obtain ⟨B, A, ρ, d, ρ', E, hm, k⟩ := h
  unfold mDc at hm
  split at hm
  · rename_i ds ρ1 e1
    split at hm
    · rename_i res ρ2 e2
      cases hm
      refine ⟨B, A, ρ, ds, ρ1, E, e1, fun J G H1 P1 hG it D hD => ?_⟩
      have Elay : Ev F (D :: B) A σ (upd H1 D (.dK [])) ρ1 := P1.env.hide hD (Ext.new hD) (by rw [upd_same]; simp)
      have ew : ∀ i, i ∉ vs → (L2.wipe σ vs)[i]? = σ[i]? := fun i h => wipe_ne h
      have E0 : Ev (F.more G) (D :: B) A (L2.wipe σ vs) (upd H1 D (.dK [])) (wipeR ρ1 vs) := by
        refine Ev.more ((Elay).wipe (wipe_length σ vs) ew hv) fun r hr => ?_
        refine ((hG r hr).away hD av_cons).ext (Ext.new hD) |>.mono (C := fun _ => False) (Gro.refl _) (fun a z => ?_) fun _ z => z.elim
        rcases z with z | z | ⟨j, e, h, z⟩
        · exact .inl z
        · exact .inr (.inl z)
        · exact .inr (.inr ⟨j, e, (wipeR_some h).1, z⟩)
      refine ⟨fun i m Hc => m = ds.length - i ∧ i ≤ ds.length ∧ ∃ acc xs ρc, Ev (F.more G) (D :: B) A (L2.wipe σ vs) Hc ρc ∧ Hc D = some (.dK xs) ∧ RelKs F.K (Av F (D :: B) A ρc) Hc xs acc ∧ Gro (Ow A ρ) H Hc ∧ Lv (effi ++ (vs ++ (efft ++ (effk ++ effe)))) ρ ρc ∧ dcL g mt mk mv vs (ds.drop i) acc ρc = some (res, ρ2),
        ⟨ds.length, by simp, Nat.zero_le _, [], [], wipeR ρ1 vs, E0, upd_same, .nil, P1.gro.trans (Ext.new hD).gro, (P1.lv.more fun i h => List.mem_append_left _ h).trans' (wipeR_lv.more fun i h => List.mem_append_right _ (List.mem_append_left _ h)), by rw [List.drop_zero]; exact e2⟩, ?_⟩
      rintro i m Hc ⟨rfl, hi, acc, xs, ρc, Ec, hDc, rc, gc, lc, hm⟩
      by_cases hlt : i < ds.length
      · refine .inr ⟨it.goes i _ Hc Ec.rootsG hlt, fun H' => ∃ acc xs ρc, Ev (F.more G) (D :: B) A (L2.wipe σ vs) H' ρc ∧ H' D = some (.dK xs) ∧ RelKs F.K (Av F (D :: B) A ρc) H' xs acc ∧ Gro (Ow A ρ) H H' ∧ Lv (effi ++ (vs ++ (efft ++ (effk ++ effe)))) ρ ρc ∧ dcL g mt mk mv vs (ds.drop (i + 1)) acc ρc = some (res, ρ2), fun H' q => ⟨ds.length - (i + 1), by omega, rfl, hlt, q⟩, fun x H' y => ?_⟩
        obtain ⟨ext, d, ed, rd⟩ := it.yields i _ Hc x H' Ec.rootsG Ec.less.occA hlt y
        rw [drop_cons' ed] at hm
        unfold dcL at hm
        split at hm
        · cases hm
        · rename_i ρg eg
          refine ⟨G, D :: B, A, ρc, d, ρg, Ec.ext ext, rd, eg, fun σ2 H2 E2 g2 hw l2 => ⟨by rw [hw, wipe_wipe], ?_⟩⟩
          have hw2 : L2.wipe σ2 vs = L2.wipe σ vs := by rw [hw, wipe_wipe]
          have hD0 : H D = none := P1.gro.back hD
          have hD2 : H2 D = some (.dK xs) := g2.keep _ _ (ext _ _ hDc) (fun z => z) fun ps z => nomatch z
          have ow1 : ∀ a, Ow A ρg a → Ow A ρ a := fun a z => lc.ow (l2.ow z)
          have gro2 : Gro (Ow A ρ) H H2 := gc.trans ((ext.gro).trans (g2.mono fun _ z => z.elim))
          have av1 : ∀ a, Av F (D :: B) A ρg a → Av F (D :: B) A ρc a := fun a z => l2.av z
          have rc2 : RelKs F.K (Av F (D :: B) A ρg) H2 xs acc := ((rc.ext ext).mono g2 (fun a z => z) fun _ z => z.elim).mono (C := fun _ => False) (Gro.refl _) av1 fun _ z => z.elim
          have lg : Lv (effi ++ (vs ++ (efft ++ (effk ++ effe)))) ρ ρg := lc.trans' (l2.more fun i h => List.mem_append_right _ (List.mem_append_left _ h))
          split at hm
          · rename_i ρt et
            refine ⟨G, D :: B, A, ρg, true, ρt, E2, et, fun H3 P3 => ?_⟩
            simp only [if_true]
            have hD3 : H3 D = some (.dK xs) := P3.gro.keep _ _ hD2 (E2.notOw List.mem_cons_self) fun ps z => nomatch z
            have rc3 : RelKs F.K (Av F (D :: B) A ρt) H3 xs acc := rc2.mono P3.gro (fun a z => P3.lv.av z) fun a z => .inr (.inr z)
            have lt : Lv (effi ++ (vs ++ (efft ++ (effk ++ effe)))) ρ ρt := lg.trans' (P3.lv.more fun i h => List.mem_append_right _ (List.mem_append_right _ (List.mem_append_left _ h)))
            split at hm
            · rename_i kd ρk ek
              refine ⟨G, D :: B, A, ρt, kd, ρk, P3.env, ek, fun kv Hk Pk rk => ?_⟩
              have hDk : Hk D = some (.dK xs) := Pk.gro.keep _ _ hD3 (P3.env.notOw List.mem_cons_self) fun ps z => nomatch z
              have rck : RelKs F.K (Av F (D :: B) A ρk) Hk xs acc := rc3.mono Pk.gro (fun a z => Pk.lv.av z) fun a z => .inr (.inr z)
              have lk : Lv (effi ++ (vs ++ (efft ++ (effk ++ effe)))) ρ ρk := lt.trans' (Pk.lv.more fun i h => List.mem_append_right _ (List.mem_append_right _ (List.mem_append_right _ (List.mem_append_left _ h))))
              split at hm
              · rename_i yd ρe ee
                split at hm
                · rename_i key hkey
                  split at hm
                  · rename_i hz
                    refine ⟨G, D :: B, A, ρk, yd, ρe, Pk.env, ee, fun yv H4 P4 r4 => ?_⟩
                    have hD4 : H4 D = some (.dK xs) := P4.gro.keep _ _ hDk (Pk.env.notOw List.mem_cons_self) fun ps z => nomatch z
                    have rc4 : RelKs F.K (Av F (D :: B) A ρe) H4 xs acc := rck.mono P4.gro (fun a z => P4.lv.av z) fun a z => .inr (.inr z)
                    have W : Gro (fun a => a = D) H4 (upd H4 D (.dK (putK xs key yv))) := Gro.upd hD4 fun ps z => nomatch z
                    have le : Lv (effi ++ (vs ++ (efft ++ (effk ++ effe)))) ρ ρe := lk.trans' (P4.lv.more fun i h => List.mem_append_right _ (List.mem_append_right _ (List.mem_append_right _ (List.mem_append_right _ h))))
                    have e1 := keyD_some hkey
                    subst e1
                    refine ⟨xs, key, (rk.rr Pk.env).key, hD4, by rw [rc4.length]; exact hz, gPut.dput acc key yd, putK xs key yv, wipeR ρe vs, ?_, upd_same, ?_, ?_, le.trans' (wipeR_lv.more fun i h => List.mem_append_right _ (List.mem_append_left _ h)), hm⟩
                    · have E5 := (P4.env.writeB List.mem_cons_self W).wipe (σ' := L2.wipe σ2 vs) (vs := vs) (wipe_length _ _) (fun i h => wipe_ne h) hv
                      rw [hw2] at E5
                      exact E5
                    · refine RelKs.put ?_ ?_
                      · exact r4.plain.mono W (fun a z => wipeR_av (F := F) a z) fun a z => .inr (.inl (z ▸ List.mem_cons_self))
                      · exact rc4.mono W (fun a z => wipeR_av a z) fun a z => .inr (.inl (z ▸ List.mem_cons_self))
                    · exact Gro.fresh (gro2.trans ((P3.gro.mono ow1).trans ((Pk.gro.mono fun a z => ow1 a (P3.lv.ow z)).trans (P4.gro.mono fun a z => ow1 a (P3.lv.ow (Pk.lv.ow z)))))) hD0 W
                  · cases hm
                · cases hm
              · cases hm
            · cases hm
          · rename_i ρt et
            refine ⟨G, D :: B, A, ρg, false, ρt, E2, et, fun H3 P3 => ?_⟩
            simp only [Bool.false_eq_true, if_false]
            have hD3 : H3 D = some (.dK xs) := P3.gro.keep _ _ hD2 (E2.notOw List.mem_cons_self) fun ps z => nomatch z
            have rc3 : RelKs F.K (Av F (D :: B) A ρt) H3 xs acc := rc2.mono P3.gro (fun a z => P3.lv.av z) fun a z => .inr (.inr z)
            have lt : Lv (effi ++ (vs ++ (efft ++ (effk ++ effe)))) ρ ρt := lg.trans' (P3.lv.more fun i h => List.mem_append_right _ (List.mem_append_right _ (List.mem_append_left _ h)))
            refine ⟨acc, xs, wipeR ρt vs, ?_, hD3, ?_, gro2.trans (P3.gro.mono ow1), lt.trans' (wipeR_lv.more fun i h => List.mem_append_right _ (List.mem_append_left _ h)), hm⟩
            · have E5 := P3.env.wipe (σ' := L2.wipe σ2 vs) (vs := vs) (wipe_length _ _) (fun i h => wipe_ne h) hv
              rw [hw2] at E5
              exact E5
            · exact rc3.mono (C := fun _ => False) (Gro.refl _) (fun a z => wipeR_av a z) fun _ z => z.elim
          · cases hm
      · have e : i = ds.length := by omega
        subst e
        rw [List.drop_length] at hm
        cases hm
        have Eb : Ev F (D :: B) A σ Hc (wipeR ρ2 vs) := Ec.less.wipe (wipe_length σ vs).symm (fun i h => (wipe_ne h).symm) hv
        exact .inl ⟨it.stops _ Hc Ec.rootsG, k D Hc ⟨Eb.unhide, gc, lc.trans' (wipeR_lv.more fun i h => List.mem_append_right _ (List.mem_append_left _ h))⟩ Eb (fun z => (P1.env.occB D z).1 hD) (.inl ⟨xs, hDc, rc.mono (C := fun _ => False) (Gro.refl _) (fun a z => wipeR_av a z) fun _ z => z.elim⟩)⟩
    · cases hm
  · cases hm
theorem x_dc {kx vx iter : Expr} {ifs : List Expr} {scope : Scope} {own : List (Str × Nat)} {mi : M (List D)} {g : D → Rho → Option Rho} {mt : M Bool} {mk mv : M D} {effi efft effk effe : List Nat} (hc : X.calm = true) (hN : X.N.Nodup) (hi : PI X tg iter (rdI F mi effi)) (ok : BlkOk X.N X.env.scope scope own)
    (hg : ∀ (s : Shared) (H : Hp) (C : Addr) (cl : List (Str × Addr)) (fp : List Addr) G, PG (X.blk s H scope (compEnvC scope cl C X.env) fp) tg (rdW (F.more G) (own.map (·.2)) g))
    (ht : ∀ (s : Shared) (H : Hp) (C : Addr) (cl : List (Str × Addr)) (fp : List Addr) G, PTs (X.blk s H scope (compEnvC scope cl C X.env) fp) ifs (rdT (F.more G) mt efft))
    (hk : ∀ (s : Shared) (H : Hp) (C : Addr) (cl : List (Str × Addr)) (fp : List Addr) G, PE (X.blk s H scope (compEnvC scope cl C X.env) fp) kx (rd (F.more G) mk [] effk))
    (he : ∀ (s : Shared) (H : Hp) (C : Addr) (cl : List (Str × Addr)) (fp : List Addr) G, PE (X.blk s H scope (compEnvC scope cl C X.env) fp) vx (rd (F.more G) mv [] effe))
    (hv : ∀ i ∈ own.map (·.2), i ∉ F.io := by decide) (hs : ∀ x, foldedSetIterable iter X.env x = pure x := by intro _; rfl) :
    PE X (.DictComp kx vx [⟨tg, iter, ifs, 0⟩] scope pos) (rdN F (mDc mi g mt mk mv (own.map (·.2))) (effi ++ (own.map (·.2) ++ (efft ++ (effk ++ effe))))) :=
  PE.mono (pe_dc hc hN hi ok (fun s H C cl fp => PG.exW (hg s H C cl fp)) (fun s H C cl fp => PTs.ex (ht s H C cl fp)) (fun s H C cl fp => PE.ex (hk s H C cl fp)) (fun s H C cl fp => PE.ex (he s H C cl fp)) hs) fun σ H Q h => rd_dc hv h
end
end PD

set_option Elab.async false
set_option linter.all false
set_option maxRecDepth 100000
set_option maxHeartbeats 2000000
/-! PDm: name[k] op= e, calls by keywords alone, join, count, len(set(..)). -/
namespace PD
open PySem PySem.Spec PyProof.Rows L2 GxR GenX OwnK
section
variable {X : Cx} {F : Frm} {pos p : Pos} {K : PySem.W.Frag}
def rGet (K : PySem.W.Frag) : V → V → Hp → VK → Prop := fun o i H Q => ∃ p xs k z, o = .ref p ∧ i = .int k ∧ SqL K H p xs ∧ atI xs k = some z ∧ Q z H
theorem get_list : PGet X (rGet X.K) := by
  intro pins s σ H o i ov iv Q I ro ri h
  obtain ⟨p, xs, i, z, rfl, rfl, hq, he, q⟩ := h
  cases ro
  obtain ⟨t, rfl⟩ := ri
  obtain ⟨its, r, pl, hz⟩ := I.list hq
  obtain ⟨j, h1, h2, h3, h4, h5⟩ := atI_get he
  obtain ⟨w, ew, rw'⟩ := r.get h2
  have hl := r.length
  have hn := line63
  have fin : EP X pins σ Q w s := ⟨z, H, I, rw', q⟩
  by_cases h0 : 0 ≤ i
  · have hj : i.toNat = j := by
      rw [seqIndex_of h0 h5] at h1
      exact Option.some.inj h1
    exact wpAny_getItem_list pl.isList h0 (by omega) (by rw [hj]; simpa using ew) fin
  · have hj : (i + (its.toArray.size : Int)).toNat = j := by
      rw [seqIndex_neg (by omega) h4] at h1
      rw [List.size_toArray, ← hl]
      exact Option.some.inj h1
    exact wpAny_getItem_list_neg pl.isList (by omega) (by rw [List.size_toArray] <;> omega) (by omega) (by rw [hj]; simpa using ew) fin
def gIxL : D → D → Option D
  | .list ds, .int i => atI ds i
  | _, _ => none
def mAugL (i : Nat) (g : D → D → Option D) (mk me : M D) : MS := fun ρ => match ρ[i]? with
  | some (some (true, o)) => (match mk ρ with
    | some (kd, ρ1) => (match gIxL o kd with
      | some x => (match me ρ1 with
        | some (d, ρ2) => (match g x d with
          | some r => (match gPut o kd r with
            | some o' => some (.nx (ρ2.set i (some (true, o'))))
            | none => none)
          | none => none)
        | none => none)
      | none => none)
    | none => none)
  | _ => none
theorem s_augS {i : Nat} {x : Str} {k e : Expr} {mk me : M D} {depk effk depe effe : List Nat} {op : Operator} {g : D → D → Option D} {xp pos' : Pos} (hN : X.N[i]? = some x) (hv : Vis X.env.scope x) (hk : PE X k (rd F mk depk effk)) (he : PE X e (rd F me depe effe)) (ho : PIp X op (rip F.K g)) (hne : i ∉ effk := by decide) (hne2 : i ∉ effe := by decide) (hdk : ∀ i ∈ depk, i ∉ effe := by decide)
    (hd : (x == ("__debug__" : Str)) = false := by decide) (hcd : (x == ("__classdict__" : Str)) = false := by decide) (hK : X.K = F.K := by rfl)
    (ha : ∀ ov iv new, augStore k ov iv new = (do holding [new, ov, iv] (setItem ov iv new); release [new, ov, iv] []; pure .next) := by intros; rfl) :
    PS X (.AugAssign (.Subscript (.Name x xp) k pos') op e pos) (rdS F (mAugL i g mk me)) := by
  refine PS.mono (ps_augS (pe_var hN hv hd hcd) hk get_list he ho set_list ha) fun Dn σ H ⟨A, ρ, out, E, hm, kk⟩ => ?_
  unfold mAugL at hm
  split at hm
  · rename_i o e0
    split at hm
    · rename_i kd ρ1 e1
      split at hm
      · rename_i x0 e2
        split at hm
        · rename_i d ρ2 e3
          split at hm
          · rename_i r e4
            split at hm
            · rename_i o' e5
              cases hm
              refine ⟨_, (E.own i o e0).1, [], A, ρ, kd, ρ1, E, e1, fun kv H1 P1 r1 => ?_⟩
              have q1 : ρ1[i]? = some (some (true, o)) := by rw [P1.lv.keep i hne]; exact e0
              unfold gIxL at e2
              split at e2
              · rename_i ds n
                obtain ⟨_, xs, hx, rx⟩ := P1.env.own i _ q1
                have en : kv = .int n := (r1.rr P1.env).int
                obtain ⟨j, g1, g2, g3⟩ := atI_get e2
                obtain ⟨z, hz, rz⟩ := rx.get g2
                refine ⟨A i, xs, n, z, rfl, en, hK ▸ SqL.of hx, ?_, [], A, ρ1, d, ρ2, P1.env, e3, fun v H2 P2 r2 => ?_⟩
                · have e2' := e2
                  unfold atI at e2' ⊢
                  rw [rx.length]
                  cases qn : ixN ds.length n with
                  | none => rw [qn] at e2'; cases e2'
                  | some j' =>
                    rw [qn] at e2'
                    have e3' : ds[j']? = some x0 := e2'
                    obtain ⟨z', hz', _⟩ := rx.get e3'
                    show xs[j']? = some z
                    have : seqIndex? n ds.length = some j' := (ixN_seq qn).1
                    rw [g1] at this
                    cases this
                    exact hz
                · have r0 := (Val.later (dep := []) (.inl rz) P2.gro P2.lv (by simp)).plain
                  refine ⟨Av F [] A ρ2, x0, d, r, .inl r0, r2.rr P2.env, e4, fun w hw => ?_⟩
                  have q2 : ρ2[i]? = some (some (true, PyData.list ds)) := by rw [P2.lv.keep i hne2]; exact q1
                  rcases put_ok P2.env q2 e5 ((r1.later P2.gro P2.lv hdk).rr P2.env) (hw _) with ⟨xs', k', j', h1, h2, h3, h4, h5⟩ | ⟨kvs, k', h1, _⟩
                  · exact ⟨A i, xs', k', j', rfl, h2, h1, h3, kk A σ _ (P2.write q2 h4 h5).env⟩
                  · obtain ⟨_, ys, h6, _⟩ := P2.env.own i _ q2
                    rw [h6] at h1
                    cases h1
              · cases e2
            · cases hm
          · cases hm
        · cases hm
      · cases hm
    · cases hm
  · cases hm
end
end PD

set_option Elab.async false
set_option linter.all false
set_option maxRecDepth 100000
set_option maxHeartbeats 2000000
/-! PDn: calls by keywords alone, join, tuple.count, len(set(..)). -/
namespace PD
open PySem PySem.Spec PyProof.Rows L2 GxR GenX OwnK
section
variable {X : Cx} {F : Frm} {pos p : Pos} {K : PySem.W.Frag}
/-- how many numbers there are -/
def distI : List Int → Nat
  | [] => 0
  | n :: r => if n ∈ r then distI r else distI r + 1
theorem distI_len : ∀ {ns l : List Int}, l.Nodup → (∀ k, k ∈ l ↔ k ∈ ns) → l.length = distI ns
  | [], l, _, h => by
    cases l with
    | nil => rfl
    | cons a l => exact absurd ((h a).mp List.mem_cons_self) (by simp)
  | n :: r, l, nd, h => by
    unfold distI
    split
    · rename_i hn
      exact distI_len nd fun k => (h k).trans ⟨fun z => (List.mem_cons.mp z).elim (fun z => z ▸ hn) id, fun z => List.mem_cons_of_mem _ z⟩
    · rename_i hn
      have hm : n ∈ l := (h n).mpr List.mem_cons_self
      have e := List.length_erase_of_mem hm
      have pos : 0 < l.length := List.length_pos_of_mem hm
      have ih := distI_len (ns := r) (l := l.erase n) (nd.erase n) fun k => by
        rw [nd.mem_erase_iff, h k, List.mem_cons]
        constructor
        · rintro ⟨a, b | b⟩
          · exact absurd b a
          · exact b
        · exact fun z => ⟨fun q => hn (q ▸ z), .inr z⟩
      omega
/-! ### len(set(a tuple of ints)) -/
def tLenSetI (K : PySem.W.Frag) (ta : TE) : TE := fun σ H Q => ta σ H fun x H1 => ∃ l, ∃ ns : List Int, x = .ref l ∧ SqT K H1 l (ns.map V.int) ∧ ns.length + 1 < scanBound ∧ Q (.int (distI ns : Nat)) H1
theorem setR_count {w : World} {h : Heap} {a : Addr} {ns : List Int} {c : Nat} (R : SetR w h a (fun j => decide (j ∈ ns)) c) : c = distI ns := by
  obtain ⟨o, es, ep, t, ho, hx, hd, g, nd, hm, hb, hf, hn, _⟩ := R
  have e1 : (es.toList.map keyOf).length = c := by rw [List.length_map, Array.length_toList]; exact hn
  rw [← e1]
  exact distI_len nd fun k => by rw [← hm k]; exact decide_eq_true_iff
theorem pe_lenSetI {a : Expr} {ta : TE} {p p2 q pos : Pos} (hc : X.calm = true) (hg : Gl X "len") (hm : X.mg "len" = none) (hg2 : Gl X "set") (hm2 : X.mg "set" = none) (ha : PE X a ta)
    (na : starEach [a] X.env = (false, eval a X.env) :: starEach [] X.env := by rfl) : PE X (.Call (.Name "len" p) [.Call (.Name "set" p2) [a] [] q] [] pos) (tLenSetI X.K ta) := by
  refine ⟨fun pins s σ H Q I h => ?_⟩
  refine Call_ (ld_blt I hg hm boot_len ?_)
  refine PyProof.Rows.callWith_builtin1 (PyProof.Rows.args_cons ?_ rfl) rfl rfl
  refine Call_ (ld_blt I hg2 hm2 boot_set ?_)
  refine PyProof.Rows.callWith_type1 (PyProof.Rows.args_cons (thn (ha.run pins s σ H _ I h) fun v s1 ⟨x, H1, I1, r1, q1⟩ => PyProof.Rows.args_nil ?_) na) na rfl
  obtain ⟨l, ns, rfl, hq, h1, q1⟩ := q1
  cases r1
  obtain ⟨its, r, pl, hz⟩ := I1.tuple hq
  refine call_set_tupI ns (I1.ok.hd hc) pl (by simpa using ints_of_vals r) h1 fun h' tk c hS hle hk => ?_
  refine PyProof.Rows.args_nil ?_
  have ec := setR_count hS
  obtain ⟨o, es, ep, t, ho, hex, hd, _, _, _, hb, hf, hn, _⟩ := hS
  have I2 : Inv X pins σ H1 { s1 with heap := h', toks := tk } := I1.kept fun b o e => hk b o e
  refine call_len_set ho hex hd hf (by rw [hn]; unfold scanBound at h1; omega) ⟨.int (distI ns : Nat), H1, I2.tok _, ⟨_, by rw [hn, ec]⟩, q1⟩
def gLenSet : D → Option D
  | .tuple ds => (allInts ds).bind fun ns => if ns.length + 1 < scanBound then some (.int (distI ns : Nat)) else none
  | _ => none
theorem x_lenSet {a : Expr} {m : M D} {dep eff : List Nat} {p p2 q pos : Pos} (hc : X.calm = true) (hg : Gl X "len") (hm : X.mg "len" = none) (hg2 : Gl X "set") (hm2 : X.mg "set" = none) (ha : PE X a (rd F m dep eff)) (hK : X.K = F.K := by rfl)
    (na : starEach [a] X.env = (false, eval a X.env) :: starEach [] X.env := by rfl) : PE X (.Call (.Name "len" p) [.Call (.Name "set" p2) [a] [] q] [] pos) (rd F (mUn gLenSet m) [] eff) :=
  PE.mono (pe_lenSetI hc hg hm hg2 hm2 ha na) fun σ H Q ⟨B, A, ρ, d, ρ1, E, hm, k⟩ => by
    obtain ⟨d1, e1, e2⟩ := mUn_some hm
    unfold gLenSet at e2
    split at e2
    · rename_i ds
      cases q : allInts ds with
      | none => rw [q] at e2; cases e2
      | some ns =>
        rw [q] at e2
        have e2 : (if ns.length + 1 < scanBound then some (PyData.int (distI ns : Nat)) else none) = some d := e2
        split at e2
        · rename_i hz
          cases e2
          refine ⟨B, A, ρ, _, ρ1, E, e1, fun v H1 P r => ?_⟩
          obtain ⟨a, xs, rfl, h1, q1⟩ := (r.rr P.env).tuple
          have ex := allInts_rel q q1
          subst ex
          exact ⟨a, ns, rfl, hK ▸ h1, hz, k _ H1 P (.inl (.int _))⟩
        · cases e2
    · cases e2
theorem prd_at {R : V → D → Prop} : ∀ {vs : List V} {ds : List D} {j : Nat} {v : V} {d : D}, Paired R vs ds → vs[j]? = some v → ds[j]? = some d → R v d
  | _, _, 0, _, _, .cons r _, a, b => by simp at a b; subst a b; exact r
  | _, _, j + 1, _, _, .cons _ t, a, b => prd_at t (by simpa using a) (by simpa using b)
  | _, _, _, _, _, .nil, a, _ => by simp at a
/-! ### f(k = v, ..): plain arguments -/
def mCallK (f : List D → Option (D × List D)) (ga : List D → List D) (m : M (List D)) : M D := fun ρ => match m ρ with
  | some (ds, ρ1) => (match f (ga ds) with
    | some (r, _) => some (r, ρ1)
    | none => none)
  | none => none
theorem k_nil : PK X [] (rdA F mNil [] []) := ⟨fun pos pins s σ H Q I ⟨B, A, ρ, ds, ρ', E, hm, k⟩ => by
  cases hm
  exact pk_nil.run pos pins s σ H Q I (k [] H (Post.refl E) .nil)⟩
theorem k_cons {e : Expr} {nm : Option Str} {kpos : Pos} {kws : List Keyword} {m : M D} {ms : M (List D)} {eff1 eff2 : List Nat} (ha : PE X e (rd F m [] eff1)) (hr : PK X kws (rdA F ms [] eff2)) : PK X (⟨nm, e, kpos⟩ :: kws) (rdA F (mCons m ms) [] (eff1 ++ eff2)) :=
  ⟨fun pos pins s σ H Q I ⟨B, A, ρ, ds, ρ2, E, hm, k⟩ => by
    obtain ⟨d, ρ1, ds', e1, e2, rfl⟩ := mCons_some hm
    exact (pk_cons ha hr).run pos pins s σ H Q I ⟨B, A, ρ, d, ρ1, E, e1, fun v1 H1 P1 r1 => ⟨B, A, ρ1, ds', ρ2, P1.env, e2, fun vs H2 P2 r2 => k _ H2 (P1.trans P2) (.cons (r1.later P2.gro P2.lv (by simp)) r2)⟩⟩⟩
theorem x_callK0 {k : Nat} {f : Addr} {fd : FuncData} {ps ks : List Str} {x : Str} {kws : List Keyword} {fn : List D → Option (D × List D)} {g : List Value → List Value → List Value} {gV : List V → List V → List V} {ga : List D → List D} {m : M (List D)} {eff : List Nat} (Fn : FnOk X.prog X.w X.K X.mg X.base CX0 k f fd ps (spD F.K F.T [] ps.length fn)) (hr : Room k X.A) (hg : Gl X x) (hm : X.mg x = some (.ref f)) (hk : PySem.W.keepIn X.K (.ref f) = true) (hb : KBinds X.K fd ps ks g gV)
    (ha : PK X kws (rdA F m [] eff)) (hga : ∀ (R : V → D → Prop) (vs : List V) (ds : List D), Paired R vs ds → Paired R (gV [] vs) (ga ds)) (hlen : ∀ ds ρ ρ1, m ρ = some (ds, ρ1) → (ga ds).length = ps.length) (hfl : ∀ ds r ds', fn ds = some (r, ds') → ds'.length = ds.length)
    (hall : (backToKw pos (keywordEach kws X.env)).all (·.1.isSome) = true := by rfl) (hks : (backToKw pos (keywordEach kws X.env)).filterMap (·.1) = ks := by rfl)
    (hdb : (x == ("__debug__" : Str)) = false := by decide)
    (hpl : ((backTo pos (starEach [] X.env)).any (·.1) || (backToKw pos (keywordEach kws X.env)).any (·.1.isNone)) = false := by rfl) :
    PE X (.Call (.Name x p) [] kws pos) (rd F (mCallK fn ga m) [] eff) := by
  refine PE.mono (pe_callK0 Fn hr hg hm hk hb pass0 ha hall hks hdb hpl) fun σ H Q ⟨B, A, ρ, r, ρ', E, hm, kq⟩ => ?_
  unfold mCallK at hm
  split at hm
  · rename_i ds ρ1 e1
    split at hm
    · rename_i r' ds' e2
      cases hm
      refine ⟨B, A, ρ, ds, _, E, e1, fun vs H1 P1 rr => ?_⟩
      have tg := hga _ _ _ (rr.mono fun a b h => h.plain)
      have hl : (ga ds).length = ps.length := hlen _ _ _ e1
      refine ⟨Av F B A ρ', fun _ => 0, ga ds, r, ds', e2, hl, (hfl _ _ _ e2).trans hl, ⟨tg.length, fun j v d a b => ⟨fun hj => absurd hj (by simp), fun _ => ?_⟩, fun j hj => absurd hj (by simp), fun i hi => absurd hi (by simp)⟩, P1.env.occA, P1.env.tabs, fun v H' g' _ rv => ?_⟩
      · exact prd_at tg a b
      · have g2 : Gro (fun _ => False) H1 H' := g'.mono fun a ⟨j, hj, _⟩ => absurd hj (by simp)
        exact kq v H' ⟨P1.env.quiet g2, P1.gro.trans (g2.mono fun _ z => z.elim), P1.lv⟩ (.inl rv)
    · cases hm
  · cases hm
end
end PD

set_option Elab.async false
set_option linter.all false
set_option maxRecDepth 100000
set_option maxHeartbeats 2000000
/-! PDo: the rules in short. -/
namespace PD
open PySem PySem.Spec PyProof.Rows L2 GxR GenX OwnK
section
variable {X : Cx} {F : Frm} {pos p : Pos}
theorem nio {io : List Nat} {i : Nat} (h : (!decide (i ∈ io)) = true) : i ∉ io := fun z => by rw [decide_eq_true z] at h; cases h
theorem nios {io l : List Nat} (h : (l.all fun i => !decide (i ∈ io)) = true) : ∀ i ∈ l, i ∉ io := fun i hi => nio (List.all_eq_true.mp h i hi)
theorem xv (i : Nat) {x : Str} (hN : X.N[i]? = some x := by rfl) (hv : Vis X.env.scope x := by first | exact Or.inl rfl | exact Or.inr (Or.inl rfl) | exact Or.inr (Or.inr rfl)) (hd : (x == ("__debug__" : Str)) = false := by decide)
    (hcd : (x == ("__classdict__" : Str)) = false := by decide) : PE X (.Name x pos) (rd F (mVar i) [i] []) := x_var hN hv hd hcd
theorem xf (i : Nat) {x : Str} (hN : X.N[i]? = some x := by rfl) (hv : Vis X.env.scope x := by first | exact Or.inl rfl | exact Or.inr (Or.inl rfl) | exact Or.inr (Or.inr rfl)) (hio : (!decide (i ∈ F.io)) = true := by rfl) (hd : (x == ("__debug__" : Str)) = false := by decide)
    (hcd : (x == ("__classdict__" : Str)) = false := by decide) : PE X (.Name x pos) (rd F (mFrz i) [] [i]) := x_frz hN hv (nio hio) hd hcd
theorem gn (i : Nat) {B : List Addr} {x : Str} (hN : X.N.Nodup) (hi : X.N[i]? = some x := by rfl) (hx : Loc X.env.scope x := by first | exact Or.inl rfl | exact Or.inr rfl) (hio : (!decide (i ∈ F.io)) = true := by rfl)
    (hf : X.fn x = true ∨ X.env.scope.names.lookup x = some .local := by first | exact .inl rfl | exact .inr rfl) : PG X (.Name x pos) (rdG F B (gSet i)) := g_name hN hi hx (nio hio) hf
theorem gnW (i : Nat) {vs : List Nat} {x : Str} (hN : X.N.Nodup) (hi : X.N[i]? = some x := by rfl) (hx : Loc X.env.scope x := by first | exact Or.inl rfl | exact Or.inr rfl) (hio : (!decide (i ∈ F.io)) = true := by rfl) (hvs : decide (i ∈ vs) = true := by rfl)
    (hf : X.fn x = true ∨ X.env.scope.names.lookup x = some .local := by first | exact .inl rfl | exact .inr rfl) : PG X (.Name x pos) (rdW F vs (gSet i)) := g_nameW hN hi hx (nio hio) (of_decide_eq_true hvs) hf
theorem hu65 {A : Around} {k : Nat} (hr : Room k A) : A.units + 65 < cLine := by have := hr.un; omega
theorem rdN_rel {B : List Addr} {A : Nat → Addr} {σ : L2.St} {H' : Hp} {ρ' : Rho} {p : Addr} {d : D} (E' : Ev F (p :: B) A σ H' ρ') (hp : p ∉ B) (r : RelO F.K (Av F (p :: B) A ρ') H' p d) : RelD F.K (Av F B A ρ') H' (.ref p) d := r.relD (fun a z => by
    rcases z with z | z | z
    · exact .inl z
    · exact .inr (.inl (List.mem_cons_of_mem _ z))
    · exact .inr (.inr z)) (fun z => by
    obtain ⟨hn, h0, hS⟩ := E'.occB p List.mem_cons_self
    rcases z with z | z | ⟨j, e, q, z⟩
    · exact hS z
    · exact hp z
    · by_cases hj : j ∈ F.io
      · exact (E'.ios j hj).2.2.1 (z ▸ List.mem_cons_self)
      · exact (E'.nS j e q hj).2.1 (z ▸ List.mem_cons_self))
theorem sown_lc (i : Nat) {y : Str} {py : Pos} {elt tg iter : Expr} {ifs : List Expr} {scope : Scope} {own : List (Str × Nat)} {pos spos : Pos} {mi : M (List D)} {g : D → Rho → Option Rho} {mt : M Bool} {me : M D} {effi efft effe : List Nat} (hc : X.calm = true) (hN : X.N.Nodup) (hi : PI X tg iter (rdI F mi effi)) (ok : BlkOk X.N X.env.scope scope own)
    (hg : ∀ (s : Shared) (H : Hp) (C : Addr) (cl : List (Str × Addr)) (fp : List Addr) G, PG (X.blk s H scope (compEnvC scope cl C X.env) fp) tg (rdW (F.more G) (own.map (·.2)) g))
    (ht : ∀ (s : Shared) (H : Hp) (C : Addr) (cl : List (Str × Addr)) (fp : List Addr) G, PTs (X.blk s H scope (compEnvC scope cl C X.env) fp) ifs (rdT (F.more G) mt efft))
    (he : ∀ (s : Shared) (H : Hp) (C : Addr) (cl : List (Str × Addr)) (fp : List Addr) G, PE (X.blk s H scope (compEnvC scope cl C X.env) fp) elt (rd (F.more G) me [] effe))
    (hv : ∀ i ∈ own.map (·.2), i ∉ F.io) (hy : X.N[i]? = some y := by rfl) (hyl : X.env.scope.names.lookup y = some .local := by rfl) (hio : (!decide (i ∈ F.io)) = true := by rfl)
    (hsw : swapsWith (.ListComp elt [⟨tg, iter, ifs, 0⟩] scope pos) (some (.Name y py)) spos.line X.env = pure true := by exact sw_true rfl rfl rfl (by decide +kernel)) (hs : ∀ x, foldedSetIterable iter X.env x = pure x := by intro _; rfl) :
    PS X (.Assign [.Name y py] (.ListComp elt [⟨tg, iter, ifs, 0⟩] scope pos) spos) (rdS F (mAsg (mLc mi g mt me (own.map (·.2))) (gOwn i))) :=
  PS.mono (ps_setLc hc hN hy hyl hsw hi ok (fun s H C cl fp => PG.exW (hg s H C cl fp)) (fun s H C cl fp => PTs.ex (ht s H C cl fp)) (fun s H C cl fp => PE.ex (he s H C cl fp)) hs) fun Dn σ H h => by
    refine rd_lc hv ?_
    obtain ⟨A, ρ, out, E, hm, k⟩ := h
    unfold mAsg at hm
    split at hm
    · rename_i d ρ1 q
      unfold gOwn at hm
      by_cases hl : i < ρ1.length
      · simp only [if_pos hl] at hm
        cases hm
        exact ⟨[], A, ρ, d, ρ1, E, q, fun p H' P E' hp r' => k _ _ H' (E'.setOwn (nio hio) hl r' hp)⟩
      · simp only [if_neg hl] at hm
        cases hm
    · cases hm
theorem sw_trueD {kx vx : Expr} {gs : List Comprehension} {scope : Scope} {pos py : Pos} {y : Str} {l : Nat} {env : Env} (hk : env.scope.kind = .function) (hy : env.scope.names.lookup y = some .local) (hl : (py.line == pos.line) = true)
    (ha : (scope.names.any fun (n, k) => n == y && (k == .local || k == .cell)) = false) : swapsWith (.DictComp kx vx gs scope pos) (some (.Name y py)) l env = pure true := by
  have ky : env.kindOf y = some .local := hy
  have hb : env.blockKind = .function := by unfold Env.blockKind; rw [hk]; rfl
  unfold swapsWith
  simp only [hb, ky, ha, Expr.pos, hl]
  rfl
theorem ps_setDc {i : Nat} {y : Str} {py : Pos} {kx vx tg iter : Expr} {ifs : List Expr} {scope : Scope} {own : List (Str × Nat)} {pos spos : Pos} {wi : TI} {g : TG} {tt : TT} {tk tv : TE} (hc : X.calm = true) (hN : X.N.Nodup) (hy : X.N[i]? = some y) (hyl : X.env.scope.names.lookup y = some .local)
    (hsw : swapsWith (.DictComp kx vx [⟨tg, iter, ifs, 0⟩] scope pos) (some (.Name y py)) spos.line X.env = pure true) (hi : PI X tg iter wi) (ok : BlkOk X.N X.env.scope scope own)
    (hg : ∀ (s : Shared) (H : Hp) (C : Addr) (cl : List (Str × Addr)) (fp : List Addr), PG (X.blk s H scope (compEnvC scope cl C X.env) fp) tg g) (ht : ∀ (s : Shared) (H : Hp) (C : Addr) (cl : List (Str × Addr)) (fp : List Addr), PTs (X.blk s H scope (compEnvC scope cl C X.env) fp) ifs tt)
    (hk : ∀ (s : Shared) (H : Hp) (C : Addr) (cl : List (Str × Addr)) (fp : List Addr), PE (X.blk s H scope (compEnvC scope cl C X.env) fp) kx tk)
    (he : ∀ (s : Shared) (H : Hp) (C : Addr) (cl : List (Str × Addr)) (fp : List Addr), PE (X.blk s H scope (compEnvC scope cl C X.env) fp) vx tv) (hs : ∀ x, foldedSetIterable iter X.env x = pure x := by intro _; rfl) :
    PS X (.Assign [.Name y py] (.DictComp kx vx [⟨tg, iter, ifs, 0⟩] scope pos) spos) (tAsg (tDc wi g tt tk tv (own.map (·.2))) (gName i)) := by
  refine ⟨fun pins s σ H D I h => ?_⟩
  rw [exec_Assign_Name_used _ _ _ _ hsw]
  refine wpAny_bind (wpAny_standAt (wpAny_bind ?_))
  show wpAny _ X.A (do let _ ← comprehension (.DictComp kx vx [⟨tg, iter, ifs, 0⟩] scope pos) scope X.env (firstIterPos [⟨tg, iter, ifs, 0⟩] pos) newDict false (eval iter X.env) (some (assign (.Name y py) X.env))) _ _ s
  have h : tDc wi g tt tk tv (own.map (·.2)) σ H (fun x H1 => gName i x σ H1 D.nx) := h
  refine wpAny_bind (thn (dc_core (Qf := fun _ s' => SP X pins D .next s') hc hN I hi ok hg ht hk he hs h fun L C s' m H' I' q hn f => ?_) fun _ s' hq => wpAny_pure (wpAny_pure hq))
  show wpAny _ _ (assign (.Name y py) X.env (.ref L)) _ _ _
  refine wpAny_assign_Name (store_ok2 (v := V.ref L) I' hN hy (.inl hyl) rfl (fun s2 I2 ⟨a, sb, ha⟩ => ?_) (.inr hyl))
  obtain ⟨f0, f1, f2, f3, f4, f5⟩ := f
  have haC : C ≠ a := by
    rcases ha with z | z
    · rw [z]; exact f1
    · exact fun e => f4 y a z e.symm
  refine ⟨m, hn.sameBut sb haC, fun h3 sb3 => ?_⟩
  exact ⟨_, H', I2.turned (t' := s2.toks) (fun b o hb e => (sb3.2 b hb).trans e) f0 f1 f3 f4 f5, q⟩
theorem sown_dc (i : Nat) {y : Str} {py : Pos} {kx vx tg iter : Expr} {ifs : List Expr} {scope : Scope} {own : List (Str × Nat)} {pos spos : Pos} {mi : M (List D)} {g : D → Rho → Option Rho} {mt : M Bool} {mk mv : M D} {effi efft effk effe : List Nat} (hc : X.calm = true) (hN : X.N.Nodup) (hi : PI X tg iter (rdI F mi effi)) (ok : BlkOk X.N X.env.scope scope own)
    (hg : ∀ (s : Shared) (H : Hp) (C : Addr) (cl : List (Str × Addr)) (fp : List Addr) G, PG (X.blk s H scope (compEnvC scope cl C X.env) fp) tg (rdW (F.more G) (own.map (·.2)) g))
    (ht : ∀ (s : Shared) (H : Hp) (C : Addr) (cl : List (Str × Addr)) (fp : List Addr) G, PTs (X.blk s H scope (compEnvC scope cl C X.env) fp) ifs (rdT (F.more G) mt efft))
    (hk : ∀ (s : Shared) (H : Hp) (C : Addr) (cl : List (Str × Addr)) (fp : List Addr) G, PE (X.blk s H scope (compEnvC scope cl C X.env) fp) kx (rd (F.more G) mk [] effk))
    (he : ∀ (s : Shared) (H : Hp) (C : Addr) (cl : List (Str × Addr)) (fp : List Addr) G, PE (X.blk s H scope (compEnvC scope cl C X.env) fp) vx (rd (F.more G) mv [] effe))
    (hv : ∀ i ∈ own.map (·.2), i ∉ F.io) (hy : X.N[i]? = some y := by rfl) (hyl : X.env.scope.names.lookup y = some .local := by rfl) (hio : (!decide (i ∈ F.io)) = true := by rfl)
    (hsw : swapsWith (.DictComp kx vx [⟨tg, iter, ifs, 0⟩] scope pos) (some (.Name y py)) spos.line X.env = pure true := by exact sw_trueD rfl rfl rfl (by decide +kernel)) (hs : ∀ x, foldedSetIterable iter X.env x = pure x := by intro _; rfl) :
    PS X (.Assign [.Name y py] (.DictComp kx vx [⟨tg, iter, ifs, 0⟩] scope pos) spos) (rdS F (mAsg (mDc mi g mt mk mv (own.map (·.2))) (gOwn i))) :=
  PS.mono (ps_setDc hc hN hy hyl hsw hi ok (fun s H C cl fp => PG.exW (hg s H C cl fp)) (fun s H C cl fp => PTs.ex (ht s H C cl fp)) (fun s H C cl fp => PE.ex (hk s H C cl fp)) (fun s H C cl fp => PE.ex (he s H C cl fp)) hs) fun Dn σ H h => by
    refine rd_dc hv ?_
    obtain ⟨A, ρ, out, E, hm, k⟩ := h
    unfold mAsg at hm
    split at hm
    · rename_i d ρ1 q
      unfold gOwn at hm
      by_cases hl : i < ρ1.length
      · simp only [if_pos hl] at hm
        cases hm
        exact ⟨[], A, ρ, d, ρ1, E, q, fun p H' P E' hp r' => k _ _ H' (E'.setOwn (nio hio) hl r' hp)⟩
      · simp only [if_neg hl] at hm
        cases hm
    · cases hm
theorem sset_lc (i : Nat) {y : Str} {py : Pos} {elt tg iter : Expr} {ifs : List Expr} {scope : Scope} {own : List (Str × Nat)} {pos spos : Pos} {mi : M (List D)} {g : D → Rho → Option Rho} {mt : M Bool} {me : M D} {effi efft effe : List Nat} (hc : X.calm = true) (hN : X.N.Nodup) (hi : PI X tg iter (rdI F mi effi)) (ok : BlkOk X.N X.env.scope scope own)
    (hg : ∀ (s : Shared) (H : Hp) (C : Addr) (cl : List (Str × Addr)) (fp : List Addr) G, PG (X.blk s H scope (compEnvC scope cl C X.env) fp) tg (rdW (F.more G) (own.map (·.2)) g))
    (ht : ∀ (s : Shared) (H : Hp) (C : Addr) (cl : List (Str × Addr)) (fp : List Addr) G, PTs (X.blk s H scope (compEnvC scope cl C X.env) fp) ifs (rdT (F.more G) mt efft))
    (he : ∀ (s : Shared) (H : Hp) (C : Addr) (cl : List (Str × Addr)) (fp : List Addr) G, PE (X.blk s H scope (compEnvC scope cl C X.env) fp) elt (rd (F.more G) me [] effe))
    (hv : ∀ i ∈ own.map (·.2), i ∉ F.io) (hy : X.N[i]? = some y := by rfl) (hyl : X.env.scope.names.lookup y = some .local := by rfl) (hio : (!decide (i ∈ F.io)) = true := by rfl)
    (hsw : swapsWith (.ListComp elt [⟨tg, iter, ifs, 0⟩] scope pos) (some (.Name y py)) spos.line X.env = pure true := by exact sw_true rfl rfl rfl (by decide +kernel)) (hs : ∀ x, foldedSetIterable iter X.env x = pure x := by intro _; rfl) :
    PS X (.Assign [.Name y py] (.ListComp elt [⟨tg, iter, ifs, 0⟩] scope pos) spos) (rdS F (mAsg (mLc mi g mt me (own.map (·.2))) (gSet i))) :=
  PS.mono (ps_setLc hc hN hy hyl hsw hi ok (fun s H C cl fp => PG.exW (hg s H C cl fp)) (fun s H C cl fp => PTs.ex (ht s H C cl fp)) (fun s H C cl fp => PE.ex (he s H C cl fp)) hs) fun Dn σ H h => by
    refine rd_lc hv ?_
    obtain ⟨A, ρ, out, E, hm, k⟩ := h
    unfold mAsg at hm
    split at hm
    · rename_i d ρ1 q
      unfold gSet at hm
      by_cases hl : i < ρ1.length
      · simp only [if_pos hl] at hm
        cases hm
        exact ⟨[], A, ρ, d, ρ1, E, q, fun p H' P E' hp r' => k _ _ H' (P.env.setPlain (nio hio) hl (rdN_rel E' hp r'))⟩
      · simp only [if_neg hl] at hm
        cases hm
    · cases hm
theorem spar (i j : Nat) {x y : Str} {a b : Expr} {m : M (List D)} {eff : List Nat} {px py pt : Pos} {kt k2 pt2} (hN : X.N.Nodup) (ha : PA X [a, b] (rdA F m [] eff)) (hc : X.calm = true := by rfl) (hi : X.N[i]? = some x := by rfl) (hj : X.N[j]? = some y := by rfl) (hij : decide (i ≠ j) = true := by rfl)
    (hx : X.env.scope.names.lookup x = some .local := by rfl) (hy : X.env.scope.names.lookup y = some .local := by rfl) (hio : (!decide (i ∈ F.io)) = true := by rfl) (hjo : (!decide (j ∈ F.io)) = true := by rfl)
    (hw : swappedStores [.Tuple [.Name x px, .Name y py] kt pt] (.Tuple [a, b] k2 pt2) X.env = pure (some [x, y]) := by rfl)
    (hs : swapsWithSole [.Tuple [.Name x px, .Name y py] kt pt] (.Tuple [a, b] k2 pt2) pos.line X.env = pure false := by rfl) :
    PS X (.Assign [.Tuple [.Name x px, .Name y py] kt pt] (.Tuple [a, b] k2 pt2) pos) (rdS F (mPar i j m)) := s_par hc hN hi hj (of_decide_eq_true hij) hx hy (nio hio) (nio hjo) ha hw hs
theorem sret {e : Expr} {m : M D} {eff : List Nat} (h : PE X e (rd F m [] eff)) (hnw : F.new = false := by rfl) : PS X (.Return (some e) pos) (rdS F (mRet m)) := s_ret h (fun _ z => nomatch z) hnw
theorem sretO (i : Nat) {x : Str} (hN : X.N[i]? = some x := by rfl) (hv : Vis X.env.scope x := by first | exact Or.inl rfl | exact Or.inr (Or.inl rfl) | exact Or.inr (Or.inr rfl)) (hio : (!decide (i ∈ F.io)) = true := by rfl) (hnw : F.new = true := by rfl) (hd : (x == ("__debug__" : Str)) = false := by decide)
    (hcd : (x == ("__classdict__" : Str)) = false := by decide) : PS X (.Return (some (.Name x p)) pos) (rdS F (mRet (mOwn i))) := s_retOwn hN hv (nio hio) hnw hd hcd
theorem sown (i : Nat) {x : Str} {e : Expr} {m : M D} {eff : List Nat} {pos' : Pos} (hN : X.N.Nodup) (he : PE X e (rdN F m eff)) (hi : X.N[i]? = some x := by rfl) (hx : Loc X.env.scope x := by first | exact Or.inl rfl | exact Or.inr rfl) (hio : (!decide (i ∈ F.io)) = true := by rfl) (hs : swapsWith e (some (.Name x pos')) pos.line X.env = pure false := by rfl)
    (hf : X.fn x = true ∨ X.env.scope.names.lookup x = some .local := by first | exact .inl rfl | exact .inr rfl) : PS X (.Assign [.Name x pos'] e pos) (rdS F (mAsg m (gOwn i))) := s_own hN hi hx (nio hio) he hs hf
theorem saug (i : Nat) {x : Str} {e : Expr} {m : M D} {dep eff : List Nat} {op : Operator} {g : D → D → Option D} {pos' : Pos} (hN : X.N.Nodup) (he : PE X e (rd F m dep eff)) (ho : PIp X op (rip F.K g)) (hi : X.N[i]? = some x := by rfl) (hx : Loc X.env.scope x := by first | exact Or.inl rfl | exact Or.inr rfl) (hio : (!decide (i ∈ F.io)) = true := by rfl) (hne : (!decide (i ∈ eff)) = true := by rfl)
    (hf : X.fn x = true ∨ X.env.scope.names.lookup x = some .local := by first | exact .inl rfl | exact .inr rfl) : PS X (.AugAssign (.Name x pos') op e pos) (rdS F (mAug i g m)) := s_aug hN hi hx (nio hio) he ho (nio hne) hf
theorem saugS (i : Nat) {x : Str} {k e : Expr} {mk me : M D} {depk effk depe effe : List Nat} {op : Operator} {g : D → D → Option D} {xp pos' : Pos} (hk : PE X k (rd F mk depk effk)) (he : PE X e (rd F me depe effe)) (ho : PIp X op (rip F.K g)) (hN : X.N[i]? = some x := by rfl) (hv : Vis X.env.scope x := by first | exact Or.inl rfl | exact Or.inr (Or.inl rfl) | exact Or.inr (Or.inr rfl)) (hne : (!decide (i ∈ effk)) = true := by rfl) (hne2 : (!decide (i ∈ effe)) = true := by rfl) (hdk : (depk.all fun i => !decide (i ∈ effe)) = true := by rfl)
    (hd : (x == ("__debug__" : Str)) = false := by decide) (hcd : (x == ("__classdict__" : Str)) = false := by decide) (hK : X.K = F.K := by rfl)
    (ha : ∀ ov iv new, augStore k ov iv new = (do holding [new, ov, iv] (setItem ov iv new); release [new, ov, iv] []; pure .next) := by intros; rfl) :
    PS X (.AugAssign (.Subscript (.Name x xp) k pos') op e pos) (rdS F (mAugL i g mk me)) := s_augS hN hv hk he ho (nio hne) (nio hne2) (nios hdk) hd hcd hK ha
theorem sput (i : Nat) {x : Str} {k value : Expr} {mk mv : M D} {depk effk effv : List Nat} {xp pos' : Pos} (hu : X.A.units + 1 < cLine) (hk : PE X k (rd F mk depk effk)) (hval : PE X value (rd F mv [] effv)) (hN : X.N[i]? = some x := by rfl) (hv : Vis X.env.scope x := by first | exact Or.inl rfl | exact Or.inr (Or.inl rfl) | exact Or.inr (Or.inr rfl)) (hne : (!decide (i ∈ effk)) = true := by rfl)
    (hs : swapsWith value (some (.Subscript (.Name x xp) k pos')) pos.line X.env = pure false := by rfl) (hd : (x == ("__debug__" : Str)) = false := by decide) (hcd : (x == ("__classdict__" : Str)) = false := by decide) :
    PS X (.Assign [.Subscript (.Name x xp) k pos'] value pos) (rdS F (mPut i mk mv)) := s_put hu hN hv hk hval (nio hne) hs hd hcd
theorem xcio (i : Nat) {x : Str} {es : List Expr} {ms : M (List D)} {ts : List (Option Nat)} {eff2 : List Nat} (hr : PA X es (rdC F ts ms eff2)) (hN : X.N[i]? = some x := by rfl) (hv : Vis X.env.scope x := by first | exact Or.inl rfl | exact Or.inr (Or.inl rfl) | exact Or.inr (Or.inr rfl))
    (hd : (x == ("__debug__" : Str)) = false := by decide) (hcd : (x == ("__classdict__" : Str)) = false := by decide) (hs : starEach (.Name x p :: es) X.env = (false, eval (.Name x p) X.env) :: starEach es X.env := by rfl) : PA X (.Name x p :: es) (rdC F (some i :: ts) (mConsIo i ms) eff2) := xc_io hN hv hr hd hcd hs
theorem t_cmp {op : CmpOp} {a b : Expr} {g : D → D → Option D} {m1 m2 : M D} {dep1 eff1 dep2 eff2 : List Nat} (ho : OpR X (compareOp op) (rop F.K g)) (ha : PE X a (rd F m1 dep1 eff1)) (hb : PE X b (rd F m2 dep2 eff2)) (hd : ∀ i ∈ dep1, i ∉ eff2 := by decide)
    (hm : behindInMarks op b = false := by first | exact nobehind _ (by decide) (by decide) | rfl) : PT X (.Compare a [op] [b] pos) (rdT F (mB (mBin g m1 m2)) (eff1 ++ eff2)) := PT.mono (pt_cmpR ho ha hb hm) fun σ H Q h => rd_bin hd (rd_tB h)
theorem t_chain {op op' : CmpOp} {a b c : Expr} {g g' : D → D → Option D} {ma mb mc : M D} {da ea db eb dc ec : List Nat} (ho : OpR X (compareOp op) (rop F.K g)) (ho' : OpR X (compareOp op') (rop F.K g')) (ha : PE X a (rd F ma da ea)) (hb : PE X b (rd F mb db eb)) (hc : PE X c (rd F mc dc ec))
    (h1 : ∀ i ∈ da, i ∉ eb := by decide) (h2 : ∀ i ∈ db, i ∉ ec := by decide) (hm : lastMarks [op, op'] [b, c] = false := by with_unfolding_all rfl) : PT X (.Compare a [op, op'] [b, c] pos) (rdT F (mB (mChain g g' ma mb mc)) (ea ++ eb ++ ec)) :=
  PT.mono (pt_chain ho ho' ha hb hc hm) fun σ H Q h => rd_chain h1 h2 (rd_tB h)
theorem gR {k : Nat} {A : Around} (r : Room (k + 3) A) (e : Env) : Room k (A.in1.in1.deeper e) := (r.in1.in1).deeper e
end
def gokC (N : List Str) (sc scope : Scope) (own : List (Str × Nat)) : Bool := blkC N sc scope own && !scope.isCoroutine && (scope.names.all fun y => match y.2 with | .cell => false | _ => true) && (match scope.names.lookup (".0" : Str) with | some NameKind.local => true | _ => false)
theorem gok_by {N : List Str} {sc scope : Scope} {own : List (Str × Nat)} (h : gokC N sc scope own = true) : GOk N sc scope own := by
  unfold gokC at h
  simp only [Bool.and_eq_true, List.all_eq_true] at h
  obtain ⟨⟨⟨h1, h2⟩, h3⟩, h4⟩ := h
  refine ⟨blkOk_by h1, by simpa using h2, fun y hy e => ?_, ?_⟩
  · have q := h3 y hy
    rw [e] at q
    cases q
  · revert h4
    cases scope.names.lookup (".0" : Str) with
    | none => intro h; cases h
    | some k => cases k <;> intro h <;> first | rfl | cases h
end PD

set_option Elab.async false
set_option linter.all false
set_option maxRecDepth 100000
set_option maxHeartbeats 2000000
/-! PDp: isinstance, join, list(range(n)), str * int. -/
namespace PD
open PySem PySem.Spec PyProof.Rows L2 GxR GenX OwnK
section
variable {X : Cx} {F : Frm} {pos p : Pos} {K : PySem.W.Frag}
/-! ### isinstance(e, T), T a built-in class -/
def tyName : D → String
  | .none => "NoneType"
  | .bool _ => "bool"
  | .int _ => "int"
  | .str _ => "str"
  | .list _ => "list"
  | .tuple _ => "tuple"
  | .dict _ => "dict"
def isB (n T : String) : Bool := n == T || (n == "bool" && T == "int")
/-- no dict with tuples for keys -/
def notTD : D → Bool
  | .dict ds => !isT ds
  | _ => true
def gIsi (T : String) (d : D) : Option D := if notTD d then some (.bool (isB (tyName d) T)) else none
theorem RR.tyx {S : Addr → Prop} {H : Hp} {v : V} {d : D} (hn : notTD d = true) (r : RR K S H v d) : TyX K H v (.type (tyName d)) := by
  rcases r with r | ⟨a, rfl, r⟩
  · cases r with
    | non => exact .base .non
    | bl b => exact .base (.bl b)
    | int i => exact .base (.int i)
    | str i => exact .base (.str i)
    | lst n s r => exact s.elim (fun e => .base (.lst e)) fun ⟨o, e⟩ => .base (.frz e)
    | lstK s r => exact (let ⟨o, its, n, e, c, _⟩ := s; .kList e c)
    | tup n s r => exact (let ⟨o, e, _⟩ := s; .fTuple e)
    | tupK s r => exact (let ⟨o, its, n, e, c, _⟩ := s; .kTuple e c)
    | dic n s r => exact s.elim (fun e => .base (.dK e)) fun ⟨o, e⟩ => .fDict e
    | dit n s r =>
      have hn : (!isT _) = true := hn
      rw [r.isT] at hn
      cases hn
  · cases d with
    | list ds => obtain ⟨xs, e, _⟩ := r; exact .base (.lst e)
    | dict ds =>
      rcases r with ⟨xs, e, _⟩ | ⟨xs, e, r⟩
      · exact .base (.dK e)
      · have hn : (!isT ds) = true := hn
        rw [r.isT] at hn
        cases hn
    | _ => exact r.elim
structure KitT (T : String) : Prop where
  all : ∀ (K : PySem.W.Frag) (n : String), n ∈ ["NoneType", "bool", "int", "str", "list", "tuple", "dict"] → PySem.W.kitOne K (.type n) (.type T) = some (isB n T)
theorem tyName_mem (d : D) : tyName d ∈ ["NoneType", "bool", "int", "str", "list", "tuple", "dict"] := by cases d <;> simp [tyName]
theorem kit_int : KitT "int" := ⟨fun K n h => by
  simp only [List.mem_cons, List.not_mem_nil, or_false] at h
  rcases h with rfl | rfl | rfl | rfl | rfl | rfl | rfl <;> rfl⟩
theorem kit_bool : KitT "bool" := ⟨fun K n h => by
  simp only [List.mem_cons, List.not_mem_nil, or_false] at h
  rcases h with rfl | rfl | rfl | rfl | rfl | rfl | rfl <;> rfl⟩
theorem kit_str : KitT "str" := ⟨fun K n h => by
  simp only [List.mem_cons, List.not_mem_nil, or_false] at h
  rcases h with rfl | rfl | rfl | rfl | rfl | rfl | rfl <;> rfl⟩
theorem kit_tuple : KitT "tuple" := ⟨fun K n h => by
  simp only [List.mem_cons, List.not_mem_nil, or_false] at h
  rcases h with rfl | rfl | rfl | rfl | rfl | rfl | rfl <;> rfl⟩
theorem kit_list : KitT "list" := ⟨fun K n h => by
  simp only [List.mem_cons, List.not_mem_nil, or_false] at h
  rcases h with rfl | rfl | rfl | rfl | rfl | rfl | rfl <;> rfl⟩
theorem kit_dict : KitT "dict" := ⟨fun K n h => by
  simp only [List.mem_cons, List.not_mem_nil, or_false] at h
  rcases h with rfl | rfl | rfl | rfl | rfl | rfl | rfl <;> rfl⟩
theorem x_isi {e : Expr} {m : M D} {dep eff : List Nat} {T : String} {x : Str} {p2 : Pos} (hT : KitT T) (he : PE X e (rd F m dep eff)) (hg : Gl X "isinstance") (hm : X.mg "isinstance" = none) (hg2 : Gl X x) (hm2 : X.mg x = none) (hv : bootBuiltins x = some (.type T)) (hK : X.K = F.K := by rfl)
    (hn : x ≠ "__name__" := by decide) (hd : (x == ("__debug__" : Str)) = false := by decide)
    (hs : starEach [e, .Name x p2] X.env = (false, eval e X.env) :: starEach [.Name x p2] X.env := by rfl) (hs2 : starEach [.Name x p2] X.env = (false, eval (.Name x p2) X.env) :: starEach [] X.env := by rfl) (hpl : (backTo pos (starEach [.Name x p2] X.env)).any (·.1) = false := by rfl) :
    PE X (.Call (.Name "isinstance" p) [e, .Name x p2] [] pos) (rd F (mUn (gIsi T) m) [] eff) :=
  PE.mono (pe_callB call_isi hg hm (by decide +kernel) (pa_cons he (pa_cons (pe_bltn (v := .ty T) hg2 hm2 hv rfl hn hd) pa_nil hs2) hs) (by decide) (by decide) hs hpl) fun σ H Q ⟨B, A, ρ, d, ρ1, E, hm, k⟩ => by
    obtain ⟨d1, e1, e2⟩ := mUn_some hm
    unfold gIsi at e2
    split at e2
    rotate_left
    · cases e2
    rename_i hnT
    cases e2
    refine ⟨B, A, ρ, d1, ρ1, E, e1, fun v H1 P r => ?_⟩
    refine ⟨v, .ty T, .type (tyName d1), .type T, isB (tyName d1) T, rfl, .ty T, hK ▸ (r.rr P.env).tyx hnT, hT.all _ _ (tyName_mem d1), k _ H1 P (.inl (.bl _))⟩
/-! ### list(range(n)) -/
instance {a b : Int} : Decidable (RgOk a b) := inferInstanceAs (Decidable (_ ∧ _ ∧ _ ∧ _ ∧ _))
def gListRange : D → Option D
  | .int n => if RgOk 0 n then some (.list (rangeD 0 n.toNat)) else none
  | _ => none
theorem rel_rg {S : Addr → Prop} {H : Hp} {n : Int} : RelDs K S H (rgV 0 n) (rangeD 0 n.toNat) := by
  unfold rgV rangeD
  rw [Int.sub_zero]
  generalize n.toNat = m
  generalize List.range m = l
  induction l with
  | nil => exact .nil
  | cons i l ih => exact .cons (.int _) ih
theorem x_listRange {e : Expr} {m : M D} {dep eff : List Nat} {p2 pos2 : Pos} (hc : X.calm = true) (hg : Gl X "list") (hm : X.mg "list" = none) (hg2 : Gl X "range") (hm2 : X.mg "range" = none) (he : PE X e (rd F m dep eff))
    (na : starEach [.Call (.Name "range" p2) [e] [] pos2] X.env = (false, eval (.Call (.Name "range" p2) [e] [] pos2) X.env) :: starEach [] X.env := by rfl) (na2 : starEach [e] X.env = (false, eval e X.env) :: starEach [] X.env := by rfl) :
    PE X (.Call (.Name "list" p) [.Call (.Name "range" p2) [e] [] pos2] [] pos) (rdN F (mUn gListRange m) eff) :=
  PE.mono (pe_listRg hc hg hm (prg_1 hg2 hm2 he na2) na) fun σ H Q ⟨B, A, ρ, d, ρ1, E, hm, k⟩ => by
    obtain ⟨d1, e1, e2⟩ := mUn_some hm
    unfold gListRange at e2
    split at e2
    · split at e2
      · rename_i n hz
        cases e2
        refine ⟨B, A, ρ, _, ρ1, E, e1, fun v H1 P r => ⟨n, (r.rr P.env).int, hz, fun q hq => ?_⟩⟩
        exact rdN_lay P k hq (Ext.new hq) ⟨_, upd_same, rel_rg⟩
      · cases e2
    · cases e2
end
end PD

set_option Elab.async false
set_option linter.all false
set_option maxRecDepth 100000
set_option maxHeartbeats 2000000
/-! PDq: a call through a dict of defs of the module; join. -/
namespace PD
open PySem PySem.Spec PyProof.Rows L2 GxR GenX OwnK
/-- a dict of the module whose values are defs -/
def TabOk (P : Program) (w : World) (K K' : PySem.W.Frag) (mg : Str → Option Value) (base : Heap) (T : List Addr) (k : Nat) (pD : Addr) (ts : List (Option Nat)) (tbl : List (Str × (List D → Option (D × List D)))) : Prop :=
  ∀ z fn, tbl.lookup z = some fn → ∃ f fd ps k', KDct K w pD z (.ref f) ∧ k' ≤ k ∧ FnOk P w K mg base CX0 k' f fd ps (spD K' T (tagIo ts 0) ps.length fn) ∧ PySem.W.keepIn K (.ref f) = true ∧ Binds K fd ps [] ∧ ts.length = ps.length
def mTab (tbl : List (Str × (List D → Option (D × List D)))) (ts : List (Option Nat)) (mk : M D) (m : M (List D)) : M D := fun ρ => match mk ρ with
  | some (.str z, ρ1) => (match tbl.lookup z with
    | some fn => mCall fn ts m ρ1
    | none => none)
  | _ => none
theorem tabOk_nil {P : Program} {w : World} {K K' : PySem.W.Frag} {mg : Str → Option Value} {base : Heap} {T : List Addr} {k : Nat} {pD : Addr} {ts : List (Option Nat)} : TabOk P w K K' mg base T k pD ts [] := fun z fn h => nomatch h
theorem tabOk_cons {P : Program} {w : World} {K K' : PySem.W.Frag} {mg : Str → Option Value} {base : Heap} {T : List Addr} {k : Nat} {pD : Addr} {ts : List (Option Nat)} {z : Str} {fn : List D → Option (D × List D)} {tbl : List (Str × (List D → Option (D × List D)))} {f : Addr} {fd : FuncData} {ps : List Str} {k' : Nat}
    (h1 : KDct K w pD z (.ref f)) (h2 : k' ≤ k) (h3 : FnOk P w K mg base CX0 k' f fd ps (spD K' T (tagIo ts 0) ps.length fn)) (h4 : PySem.W.keepIn K (.ref f) = true) (h5 : Binds K fd ps []) (h6 : ts.length = ps.length) (r : TabOk P w K K' mg base T k pD ts tbl) : TabOk P w K K' mg base T k pD ts ((z, fn) :: tbl) := fun y g h => by
  rw [List.lookup_cons] at h
  split at h
  · rename_i e
    cases h
    have e : y = z := by simpa using e
    subst e
    exact ⟨f, fd, ps, k', h1, h2, h3, h4, h5, h6⟩
  · exact r y g h
/-! ### lengths -/
def MLen (n : Nat) (m : M (List D)) : Prop := ∀ ρ ds ρ1, m ρ = some (ds, ρ1) → ds.length = n
theorem mlen_nil : MLen 0 mNil := fun ρ ds ρ1 h => by cases h; rfl
theorem mlen_cons {n : Nat} {m : M D} {ms : M (List D)} (h : MLen n ms) : MLen (n + 1) (mCons m ms) := fun ρ ds ρ1 q => by
  obtain ⟨d, ρ2, ds', e1, e2, rfl⟩ := mCons_some q
  exact congrArg (· + 1) (h _ _ _ e2)
theorem mlen_ga {n k : Nat} {m : M (List D)} {ga : List D → List D} (h : MLen n m) (hg : ∀ ds, ds.length = n → (ga ds).length = k) : ∀ ds ρ ρ1, m ρ = some (ds, ρ1) → (ga ds).length = k := fun ds ρ ρ1 q => hg ds (h ρ ds ρ1 q)
theorem backR_len {ρ : Rho} {n : Nat} : (backR ρ n).length = n := by unfold backR; simp
theorem runD_len {n : Nat} {io : List Nat} {mb : MS} : ∀ ds r ds', runD n io mb ds = some (r, ds') → ds'.length = ds.length := fun ds r ds' h => by
  unfold runD at h
  split at h
  · cases h; exact backR_len
  · cases h; exact backR_len
  · cases h
section
variable {X : Cx} {F : Frm} {pos p sp : Pos} {K : PySem.W.Frag}
theorem x_tab {k : Nat} {x : Str} {pD : Addr} {tbl : List (Str × (List D → Option (D × List D)))} {e0 e : Expr} {es : List Expr} {ts : List (Option Nat)} {mk : M D} {m : M (List D)} {dep0 eff0 eff : List Nat} (hT : TabOk X.prog X.w X.K F.K X.mg X.base F.T k pD ts tbl) (hr : Room k X.A) (hg : Gl X x) (hm : X.mg x = some (.ref pD)) (hk0 : PE X e0 (rd F mk dep0 eff0))
    (ha : PA X (e :: es) (rdC F ts m eff)) (hnd : (ts.filterMap id).Nodup := by decide)
    (hs0 : PlainIx e0 := by exact fun _ _ => rfl)
    (hdb : (x == ("__debug__" : Str)) = false := by decide) (he : starEach (e :: es) X.env = (false, eval e X.env) :: starEach es X.env := by rfl) (hpl : (backTo pos (starEach es X.env)).any (·.1) = false := by rfl)
    (hev : eval (.Call (.Subscript (.Name x p) e0 sp) (e :: es) [] pos) X.env = (do callWith pos (← eval (.Subscript (.Name x p) e0 sp) X.env) [] (backTo pos (starEach (e :: es) X.env)) (backToKw pos (keywordEach [] X.env))) := by rfl) :
    PE X (.Call (.Subscript (.Name x p) e0 sp) (e :: es) [] pos) (rd F (mTab tbl ts mk m) [] (eff0 ++ (eff ++ ts.filterMap id))) := by
  refine ⟨fun pins s σ H Q I ⟨B, A, ρ, r, ρ', E, hmm, kq⟩ => ?_⟩
  unfold mTab at hmm
  split at hmm
  · rename_i z ρ0 e00
    split at hmm
    · rename_i fn hfn
      obtain ⟨f, fd, ps, k', hD, hkk, Fn, hk, hb, hlen⟩ := hT z fn hfn
      unfold mCall at hmm
      split at hmm
      · rename_i ds ρ1 e1
        split at hmm
        · rename_i r' ds' e2
          split at hmm
          · rename_i hl
            cases hmm
            refine PyProof.Rows.Call_ (thn ((pe_ix ix_kdict (pe_glob (v := .ref pD) hg hm rfl hdb) hk0 hs0).run pins s σ H (fun v H1 => v = .ref f ∧ Post F B A σ H ρ eff0 H1 ρ0) I ⟨B, A, ρ, _, ρ0, E, e00, fun v H1 P1 r1 => ?_⟩) fun u s1 ⟨v, H1, I1, rv, ev, P1⟩ => ?_) hev
            · exact ⟨pD, z, .ref f, rfl, (r1.rr P1.env).str, hD, rfl, P1⟩
            · subst ev
              cases rv
              refine PySem.W.callWith_K (h₀ := X.base) I1.ok.mod.kin hk (thn (ha.run pos pins s1 σ H1 (fun vs H2 => spD F.K F.T (tagIo ts 0) ps.length fn (vs ++ []) H2 Q L2.E0) I1 ⟨B, A, ρ0, ds, ρ1, P1.env, e1, fun vs H2 P2 tg => ?_⟩) fun us s2 ⟨vs, H2, I2, r, q⟩ => ⟨I2.kIn, ?_⟩) he hpl
              rotate_left
              · exact run_fn Fn (hr.mono hkk) hb .nil (L2.pass0 (X := X)) I2 r q
              · show spD F.K F.T (tagIo ts 0) ps.length fn (vs ++ []) H2 Q _
                rw [List.append_nil]
                exact call_spD hnd (P1.trans P2) tg hlen e2 hl fun v H' P r => by
                  rw [List.append_assoc] at P
                  exact kq v H' P (.inl r)
          · cases hmm
        · cases hmm
      · cases hmm
    · cases hmm
  · cases hmm
/-! ### join -/
def strsOf : List D → Option (List Str)
  | [] => some []
  | .str z :: r => (strsOf r).map (z :: ·)
  | _ :: _ => none
theorem strsOf_rel {S : Addr → Prop} {H : Hp} : ∀ {ds : List D} {zs : List Str} {xs : List V}, strsOf ds = some zs → RelDs K S H xs ds → xs = zs.map V.str
  | [], _, _, e, r => by
    cases r
    cases e
    rfl
  | d :: ds, zs, _, e, r => by
    cases r with
    | cons h t =>
      cases d with
      | str z =>
        have e : (strsOf ds).map (z :: ·) = some zs := e
        cases q : strsOf ds with
        | none => rw [q] at e; cases e
        | some zs' =>
          rw [q] at e
          cases e
          cases h
          rw [strsOf_rel q t]
          rfl
      | _ => cases e
def gJoinB (a : Str) (ds : List D) : Option D := (strsOf ds).bind fun zs => if (zs.map (·.length)).sum + zs.length * a.length ≤ 16777216 then some (.str (Txt.join a zs)) else none
def gJoin : D → D → Option D
  | .str a, .list ds => gJoinB a ds
  | .str a, .tuple ds => gJoinB a ds
  | _, _ => none
theorem gJoinB_some {a : Str} {ds : List D} {d : D} (h : gJoinB a ds = some d) : ∃ zs, strsOf ds = some zs ∧ (zs.map (·.length)).sum + zs.length * a.length ≤ 16777216 ∧ d = .str (Txt.join a zs) := by
  unfold gJoinB at h
  cases q : strsOf ds with
  | none => rw [q] at h; cases h
  | some zs =>
    rw [q] at h
    have h : (if (zs.map (·.length)).sum + zs.length * a.length ≤ 16777216 then some (PyData.str (Txt.join a zs)) else none) = some d := h
    split at h
    · rename_i hz
      cases h
      exact ⟨zs, rfl, hz, rfl⟩
    · cases h
theorem x_join {o e : Expr} {m1 m2 : M D} {dep1 eff1 dep2 eff2 : List Nat} {apos cpos : Pos} (ho : PE X o (rd F m1 dep1 eff1)) (he : PE X e (rd F m2 dep2 eff2)) (hd : ∀ i ∈ dep1, i ∉ eff2 := by decide) (hK : X.K = F.K := by rfl)
    (hbase : attributeBase o "join" X.env (eval o X.env) = eval o X.env := by rfl)
    (hfew : ((backTo cpos (starEach [e] X.env)).all (fun x => !x.1) && (backToKw cpos (keywordEach [] X.env)).all (fun x => x.1.isSome)
      && decide ([e].length + ([] : List Keyword).length + (if ([] : List Keyword).isEmpty then 0 else 1) < 30)) = true := by rfl)
    (hline : (apos.endLine == cpos.line) = true := by rfl) (hs : starEach [e] X.env = (false, eval e X.env) :: starEach [] X.env := by rfl) (hplain : (backTo cpos (starEach [] X.env)).any (·.1) = false := by rfl) :
    PE X (.Call (.Attribute o "join" apos) [e] [] cpos) (rd F (mBin gJoin m1 m2) [] (eff1 ++ eff2)) :=
  PE.mono (pe_bm PySem.F.plainAttrs_str PySem.F.slot_str_join PySem.F.type_str_join mt_join ho (pa_cons he pa_nil hs) hbase hfew hline hs hplain) fun σ H Q ⟨B, A, ρ, d, ρ2, E, hm, k⟩ => by
    obtain ⟨d1, ρ1, d2, e1, e2, e3⟩ := mBin_some hm
    refine ⟨B, A, ρ, d1, ρ1, E, e1, fun v1 H1 P1 r1 => ?_⟩
    unfold gJoin at e3
    split at e3
    · rename_i a ds
      have ev := (r1.rr P1.env).str
      subst ev
      obtain ⟨zs, q1, q2, rfl⟩ := gJoinB_some e3
      refine ⟨rfl, B, A, ρ1, _, ρ2, P1.env, e2, fun v2 H2 P2 r2 => ?_⟩
      obtain ⟨b, xs, rfl, h1, q3⟩ := (r2.rr P2.env).list
      have ex := strsOf_rel q1 q3
      subst ex
      exact ⟨a, b, zs, rfl, rfl, .inl (hK ▸ h1), q2, k _ H2 (P1.trans P2) (.inl (.str _))⟩
    · rename_i a ds
      have ev := (r1.rr P1.env).str
      subst ev
      obtain ⟨zs, q1, q2, rfl⟩ := gJoinB_some e3
      refine ⟨rfl, B, A, ρ1, _, ρ2, P1.env, e2, fun v2 H2 P2 r2 => ?_⟩
      obtain ⟨b, xs, rfl, h1, q3⟩ := (r2.rr P2.env).tuple
      have ex := strsOf_rel q1 q3
      subst ex
      exact ⟨a, b, zs, rfl, rfl, .inr (hK ▸ h1), q2, k _ H2 (P1.trans P2) (.inl (.str _))⟩
    · cases e3
/-! ### any, all of a list of truths -/
def boolsOf : List D → Option (List Bool)
  | [] => some []
  | .bool z :: r => (boolsOf r).map (z :: ·)
  | _ :: _ => none
theorem boolsOf_rel {S : Addr → Prop} {H : Hp} : ∀ {ds : List D} {zs : List Bool} {xs : List V}, boolsOf ds = some zs → RelDs K S H xs ds → xs = zs.map V.bl
  | [], _, _, e, r => by
    cases r
    cases e
    rfl
  | d :: ds, zs, _, e, r => by
    cases r with
    | cons h t =>
      cases d with
      | bool z =>
        have e : (boolsOf ds).map (z :: ·) = some zs := e
        cases q : boolsOf ds with
        | none => rw [q] at e; cases e
        | some zs' =>
          rw [q] at e
          cases e
          cases h
          rw [boolsOf_rel q t]
          rfl
      | _ => cases e
def gAnyL : List D → Option D
  | [.list ds] => (boolsOf ds).map fun zs => .bool (zs.any id)
  | _ => none
def gAllL : List D → Option D
  | [.list ds] => (boolsOf ds).map fun zs => .bool (zs.all id)
  | _ => none
theorem c_anyL (hc : X.calm = true) (hK : X.K = K := by rfl) : CallR X (.builtin "any") (rcall K gAnyL) := by
  subst hK
  intro pins s σ H xs us Q I r ⟨S, ds, d, hr, e, occ, k⟩
  unfold gAnyL at e
  split at e
  · rename_i l
    obtain ⟨v, rfl, r1⟩ := prs1 hr
    obtain ⟨a, ys, rfl, h1, q1⟩ := r1.list
    cases q : boolsOf l with
    | none => rw [q] at e; cases e
    | some zs =>
      rw [q] at e
      cases e
      have ex := boolsOf_rel q q1
      subst ex
      exact cr_any hc pins s σ H _ us Q I r ⟨a, zs, rfl, h1, k _ H (Ext.refl H) (.bl _)⟩
  · cases e
theorem c_allL (hc : X.calm = true) (hK : X.K = K := by rfl) : CallR X (.builtin "all") (rcall K gAllL) := by
  subst hK
  intro pins s σ H xs us Q I r ⟨S, ds, d, hr, e, occ, k⟩
  unfold gAllL at e
  split at e
  · rename_i l
    obtain ⟨v, rfl, r1⟩ := prs1 hr
    obtain ⟨a, ys, rfl, h1, q1⟩ := r1.list
    cases q : boolsOf l with
    | none => rw [q] at e; cases e
    | some zs =>
      rw [q] at e
      cases e
      have ex := boolsOf_rel q q1
      subst ex
      exact cr_all hc pins s σ H _ us Q I r ⟨a, zs, rfl, h1, k _ H (Ext.refl H) (.bl _)⟩
  · cases e
end
end PD

set_option Elab.async false
set_option linter.all false
set_option maxRecDepth 100000
set_option maxHeartbeats 2000000
/-! PDr: d.get(k, x), dict(a list of pairs). -/
namespace PD
open PySem PySem.Spec PyProof.Rows L2 GxR GenX OwnK
def mGet2 (m1 m2 m3 : M D) : M D := fun ρ => match m1 ρ with
  | some (.dict kvs, ρ1) => (match m2 ρ1 with
    | some (kd, ρ2) => (match m3 ρ2 with
      | some (dd, ρ3) => (match keyD kd with
        | some key => if isT kvs then none else some ((dget kvs key).getD dd, ρ3)
        | none => none)
      | none => none)
    | none => none)
  | _ => none
section
variable {X : Cx} {F : Frm} {pos p : Pos} {K : PySem.W.Frag}
theorem x_get2 {o e f : Expr} {m1 m2 m3 : M D} {dep1 eff1 dep2 eff2 eff3 : List Nat} {apos cpos : Pos} (hu : X.A.units + 1 < cLine) (ho : PE X o (rd F m1 dep1 eff1)) (he : PE X e (rd F m2 dep2 eff2)) (hf : PE X f (rd F m3 [] eff3)) (h1 : ∀ i ∈ dep1, i ∉ eff2 := by decide) (h2 : ∀ i ∈ dep1, i ∉ eff3 := by decide) (h3 : ∀ i ∈ dep2, i ∉ eff3 := by decide)
    (m : M2 X o "get" apos e f cpos := by exact ⟨rfl, rfl, rfl, rfl⟩) : PE X (.Call (.Attribute o "get" apos) [e, f] [] cpos) (rd F (mGet2 m1 m2 m3) [] (eff1 ++ eff2 ++ eff3)) :=
  PE.mono (pe_dget2 hu ho he hf m) fun σ H Q ⟨B, A, ρ, d, ρ', E, hm, k⟩ => by
    unfold mGet2 at hm
    split at hm
    · rename_i kvs ρ1 e1
      split at hm
      · rename_i kd ρ2 e2
        split at hm
        · rename_i dd ρ3 e3
          split at hm
          · rename_i key ek
            split at hm
            · cases hm
            rename_i hnT
            have hnT := Bool.eq_false_iff.mpr hnT
            cases hm
            refine ⟨B, A, ρ, .dict kvs, ρ1, E, e1, fun v1 H1 P1 r1 => ?_⟩
            obtain ⟨a, kv, rfl, hR, rk⟩ := (r1.rr P1.env).dict hnT
            refine ⟨a, rfl, .inl ⟨kv, hR⟩, B, A, ρ1, kd, ρ2, P1.env, e2, fun v2 H2 P2 r2 => ⟨B, A, ρ2, dd, _, P2.env, e3, fun v3 H3 P3 r3 => ?_⟩⟩
            obtain ⟨a', kv', ea, hR', rk'⟩ := (((r1.later P2.gro P2.lv h1).later P3.gro P3.lv h2).rr P3.env).dict hnT
            cases ea
            have ekd := keyD_some ek
            subst ekd
            obtain ⟨o', g, gs, gv⟩ := RelKs.dget hR' rk' ((r2.later P3.gro P3.lv h3).rr P3.env).key
            refine ⟨o', g, k _ H3 ((P1.trans P2).trans P3) (.inl ?_)⟩
            cases q : dget kvs key with
            | none =>
              rw [q] at gs
              cases o' with
              | none => exact r3.plain
              | some _ => cases gs
            | some d' =>
              obtain ⟨v, ev, rv⟩ := gv d' q
              rw [ev]
              exact rv
          · cases hm
        · cases hm
      · cases hm
    · cases hm
/-! ### dict(a list of pairs) -/
def pairsOf : List D → Option (List (Key × D))
  | [] => some []
  | .tuple [kd, d] :: r => (match keyD kd, pairsOf r with
    | some k, some l => some ((k, d) :: l)
    | _, _ => none)
  | _ :: _ => none
def dmerge : List (D × D) → List (Key × D) → List (D × D)
  | acc, [] => acc
  | acc, (k, d) :: r => dmerge (gPut.dput acc k d) r
def gDictP : D → Option D
  | .list ds => (pairsOf ds).map fun l => .dict (dmerge [] l)
  | _ => none
/-- the pairs behind the data -/
inductive RelPs (K : PySem.W.Frag) (S : Addr → Prop) (H : Hp) : List (Key × V) → List (Key × D) → Prop
  | nil : RelPs K S H [] []
  | cons {k : Key} {v : V} {kvs : List (Key × V)} {d : D} {l : List (Key × D)} : RelD K S H v d → RelPs K S H kvs l → RelPs K S H ((k, v) :: kvs) ((k, d) :: l)
theorem pairs_rel {S : Addr → Prop} {H : Hp} : ∀ {ds : List D} {l : List (Key × D)} {xs : List V}, pairsOf ds = some l → RelDs K S H xs ds → ∃ (ps : List Addr) (kvs : List (Key × V)), xs = ps.map V.ref ∧ Paired (fun p kv => SqT K H p [kV kv.1, kv.2]) ps kvs ∧ RelPs K S H kvs l
  | [], l, xs, e, r => by
    cases r
    cases e
    exact ⟨[], [], rfl, .nil, .nil⟩
  | d :: ds, l, xs, e, r => by
    unfold pairsOf at e
    split at e
    · rename_i h; cases h
    · rename_i kd d' r0 h
      cases h
      split at e
      · rename_i k l' ek el
        cases e
        obtain ⟨v, xs', rfl, rv, rr⟩ := r.inv
        obtain ⟨a, ys, rfl, hs, q⟩ := (show RR K S H v (.tuple [kd, d']) from .inl rv).tuple
        obtain ⟨y1, ys1, rfl, q1, q⟩ := q.inv
        obtain ⟨y2, ys2, rfl, q2, q⟩ := q.inv
        have e0 := q.inv0
        subst e0
        obtain ⟨ps, kvs, rfl, hp, hr⟩ := pairs_rel el rr
        have ekd := keyD_some ek
        subst ekd
        have ey := (show RR K S H y1 (kD k) from .inl q1).key
        subst ey
        exact ⟨a :: ps, (k, y2) :: kvs, rfl, .cons hs hp, .cons q2 hr⟩
      · cases e
    · cases e
theorem merge_rel {S : Addr → Prop} {H : Hp} : ∀ {kvs : List (Key × V)} {l : List (Key × D)} {acc : List (Key × V)} {dacc : List (D × D)}, RelPs K S H kvs l → RelKs K S H acc dacc → RelKs K S H (mergeK acc kvs) (dmerge dacc l)
  | _, _, _, _, .nil, r => r
  | _, _, _, _, .cons (k := k) (v := v) (kvs := kvs) (d := d) (l := l) q t, r => by
    unfold dmerge
    show RelKs K S H (mergeK (putK _ k v) kvs) _
    exact merge_rel t (RelKs.put q r)
theorem x_dictP {e : Expr} {m : M D} {dep eff : List Nat} (hc : X.calm = true) (hg : Gl X "dict") (hm : X.mg "dict" = none) (he : PE X e (rd F m dep eff)) (hK : X.K = F.K := by rfl)
    (hs : starEach [e] X.env = (false, eval e X.env) :: starEach [] X.env := by rfl) (hpl : (backTo pos (starEach [] X.env)).any (·.1) = false := by rfl) : PE X (.Call (.Name "dict" p) [e] [] pos) (rdN F (mUn gDictP m) eff) :=
  PE.mono (pe_callTy (call_dictP hc) hg hm (by decide +kernel) (pa_cons he pa_nil hs) (by decide) (by decide) hs hpl) fun σ H Q ⟨B, A, ρ, d, ρ1, E, hm, k⟩ => by
    obtain ⟨d1, e1, e2⟩ := mUn_some hm
    unfold gDictP at e2
    split at e2
    · rename_i ds
      cases q : pairsOf ds with
      | none => rw [q] at e2; cases e2
      | some l =>
        rw [q] at e2
        cases e2
        refine ⟨B, A, ρ, _, ρ1, E, e1, fun v H1 P r => ?_⟩
        obtain ⟨a, xs, rfl, h1, q1⟩ := (r.rr P.env).list
        obtain ⟨ps, kvs, rfl, hp, hr⟩ := pairs_rel q q1
        refine ⟨a, ps, kvs, rfl, hK ▸ h1, hK ▸ hp, fun y hy => ?_⟩
        exact rdN_lay P k hy (Ext.new hy) (.inl ⟨_, upd_same, (RelKs.away (merge_rel hr .nil) hy av_cons).ext (Ext.new hy)⟩)
    · cases e2
end
end PD

set_option Elab.async false
set_option linter.all false
set_option maxRecDepth 100000
set_option maxHeartbeats 2000000
/-! PDs: t.count(x), t a tuple that was made at run time. -/
namespace PD
open PySem PySem.Spec PyProof.Rows L2 GxR GenX OwnK
section
variable {X : Cx} {F : Frm} {pos p : Pos} {K : PySem.W.Frag}
/-- a tuple, its object without a dict -/
def IsT (K : PySem.W.Frag) (H : Hp) (a : Addr) : Prop := (∃ xs, FrzT.TupF H a xs) ∨ ∃ o, K.lookup a = some o ∧ o.cls = .type "tuple" ∧ o.dict = none
def tBMT (K : PySem.W.Frag) (r : V → List V → Hp → VK → Prop) (to : TE) (t : TA) : TE := fun σ H Q => to σ H fun x H1 => ∃ a, x = .ref a ∧ IsT K H1 a ∧ t σ H1 fun vs H2 => r x vs H2 Q
theorem pe_bmT {o e : Expr} {es : List Expr} {name : Str} {id : String} {r : V → List V → Hp → VK → Prop} {to : TE} {t : TA} {apos cpos : Pos} (pa : PlainAttrs "tuple") (slot : Slot "tuple" name id) (hty : typeOf (.builtin id) = pure (.type "method_descriptor")) (hm : MtR X id r) (ho : PE X o to) (ha : PA X (e :: es) t)
    (hbase : attributeBase o name X.env (eval o X.env) = eval o X.env := by rfl)
    (hfew : ((backTo cpos (starEach (e :: es) X.env)).all (fun x => !x.1) && (backToKw cpos (keywordEach [] X.env)).all (fun x => x.1.isSome)
      && decide ((e :: es).length + ([] : List Keyword).length + (if ([] : List Keyword).isEmpty then 0 else 1) < 30)) = true := by rfl)
    (hline : (apos.endLine == cpos.line) = true := by rfl) (hs : starEach (e :: es) X.env = (false, eval e X.env) :: starEach es X.env := by rfl) (hplain : (backTo cpos (starEach es X.env)).any (·.1) = false := by rfl) :
    PE X (.Call (.Attribute o name apos) (e :: es) [] cpos) (tBMT X.K r to t) := by
  refine ⟨fun pins s σ H Q I h => ?_⟩
  refine wpAny_Call_method_late hbase hfew hline rfl (thn (ho.run pins s σ H _ I h) fun v s1 ⟨x, H1, I1, r1, q1⟩ => ?_)
  obtain ⟨a, rfl, it, q1⟩ := q1
  cases (show v = Value.ref a from r1)
  have hob : ∃ ob, s1.heap.get? a = some ob ∧ ob.cls = .type "tuple" ∧ ob.dict = none := by
    rcases it with ⟨xs, ob, e1, hc, hd⟩ | ⟨ob, e1, hc, hd⟩
    · exact ⟨ob, (show ObjOk X.prog X.w H1 s1.heap a (.frz ob (.tup xs)) from I1.hok a _ e1).1, hc, hd⟩
    · exact ⟨ob, I1.kIn a ob e1, hc, hd⟩
  obtain ⟨ob, hob, hc, hd⟩ := hob
  refine ⟨"tuple", id, pa, slot, hty, ⟨ob, hob, hc⟩, fun b z => by cases z; exact ⟨ob, hob, hd⟩, ?_⟩
  have hA := ha.run cpos pins s1 σ H1 _ I1 q1
  rw [hs] at hA ⊢
  refine Calls.callWith_builtin (by show (false || (backTo cpos (starEach es X.env)).any (·.1)) = false; rw [hplain] <;> rfl) (Calls.evalArgs_plain ?_)
  exact thn hA fun us s2 ⟨vs, H2, I2, r2, q2⟩ => hm pins s2 σ H2 (.ref a) vs (.ref a) us Q I2 rfl r2 q2
def rCntT (K : PySem.W.Frag) : V → List V → Hp → VK → Prop := fun x xs H Q => ∃ (p : Addr) (ns : List Int) (k : Int), x = .ref p ∧ xs = [.int k] ∧ SqT K H p (ns.map V.int) ∧ Q (.int (ns.count k : Nat)) H
theorem mt_tcount : MtR X "tuple.count" (rCntT X.K) := by
  intro pins s σ H x xs v us Q I rx rxs h
  obtain ⟨p, ns, k, rfl, rfl, hs, q⟩ := h
  cases rx
  obtain ⟨u, rfl, ru⟩ := rxs.one
  obtain ⟨t, rfl⟩ := ru
  obtain ⟨its, rv, ⟨⟨cls, dd, data, sl⟩, ho, hc, n, hd⟩, hlen⟩ := I.tuple hs
  simp only at hc hd
  subst hc hd
  have hi := ints_of_vals rv
  refine call_meets PySem.F.slot_tuple_count ⟨_, ho, rfl⟩ PySem.F.entry_tuple_count (PySem.F.args_tuple_count_2 _ _)
    (SeqAt.tuple_countAt p its.toArray n dd sl (.int k t) (eqk k)) ⟨ho, fun y hy => (eqk_gives hi y (by simpa using hy)).at _ _, ?_⟩
  have ec : its.toArray.toList.countP (eqk k) = ns.count k := eqk_count hi
  refine ⟨.int (ns.count k : Nat), H, I.tok _, ⟨s.toks, ?_⟩, q⟩
  show Value.int ((its.toArray.toList.countP (eqk k) : Nat) : Int) s.toks = Value.int ((ns.count k : Nat) : Int) s.toks
  rw [ec]
def gTCount : D → D → Option D
  | .tuple ds, .int k => (allInts ds).map fun ns => .int (ns.count k : Nat)
  | _, _ => none
theorem isT_of {S : Addr → Prop} {H : Hp} {v : V} {ds : List D} (r : RR K S H v (.tuple ds)) : ∃ a xs, v = .ref a ∧ SqT K H a xs ∧ RelDs K S H xs ds ∧ IsT K H a := by
  rcases r with r | ⟨a, _, r⟩
  · cases r with
    | tup n s r => exact ⟨_, _, rfl, .inl s.rd, r, .inl ⟨_, s⟩⟩
    | tupK s r => exact ⟨_, _, rfl, .inr s.sq, r, .inr (let ⟨o, _, _, e, c, d, _⟩ := s; ⟨o, e, c, d⟩)⟩
  · exact r.elim
theorem x_tcount {o e : Expr} {m1 m2 : M D} {dep1 eff1 dep2 eff2 : List Nat} {apos cpos : Pos} (ho : PE X o (rd F m1 dep1 eff1)) (he : PE X e (rd F m2 dep2 eff2)) (hd : ∀ i ∈ dep1, i ∉ eff2 := by decide) (hK : X.K = F.K := by rfl)
    (hbase : attributeBase o "count" X.env (eval o X.env) = eval o X.env := by rfl)
    (hfew : ((backTo cpos (starEach [e] X.env)).all (fun x => !x.1) && (backToKw cpos (keywordEach [] X.env)).all (fun x => x.1.isSome)
      && decide ([e].length + ([] : List Keyword).length + (if ([] : List Keyword).isEmpty then 0 else 1) < 30)) = true := by rfl)
    (hline : (apos.endLine == cpos.line) = true := by rfl) (hs : starEach [e] X.env = (false, eval e X.env) :: starEach [] X.env := by rfl) (hplain : (backTo cpos (starEach [] X.env)).any (·.1) = false := by rfl) :
    PE X (.Call (.Attribute o "count" apos) [e] [] cpos) (rd F (mBin gTCount m1 m2) [] (eff1 ++ eff2)) :=
  PE.mono (pe_bmT PySem.F.plainAttrs_tuple PySem.F.slot_tuple_count PySem.F.type_tuple_count mt_tcount ho (pa_cons he pa_nil hs) hbase hfew hline hs hplain) fun σ H Q ⟨B, A, ρ, d, ρ2, E, hm, k⟩ => by
    obtain ⟨d1, ρ1, d2, e1, e2, e3⟩ := mBin_some hm
    refine ⟨B, A, ρ, d1, ρ1, E, e1, fun v1 H1 P1 r1 => ?_⟩
    unfold gTCount at e3
    split at e3
    · rename_i ds n
      cases q : allInts ds with
      | none => rw [q] at e3; cases e3
      | some ns =>
        rw [q] at e3
        cases e3
        obtain ⟨a, xs, rfl, h1, q1, it⟩ := isT_of (r1.rr P1.env)
        refine ⟨a, rfl, hK ▸ it, B, A, ρ1, _, ρ2, P1.env, e2, fun v2 H2 P2 r2 => ?_⟩
        obtain ⟨a', xs', ea, h2, q2, _⟩ := isT_of ((r1.later P2.gro P2.lv hd).rr P2.env)
        cases ea
        have ex := allInts_rel q q2
        subst ex
        have ev := (r2.rr P2.env).int
        subst ev
        exact ⟨a, ns, n, rfl, rfl, hK ▸ h2, k _ H2 (P1.trans P2) (.inl (.int _))⟩
    · cases e3
end
end PD

set_option Elab.async false
set_option linter.all false
set_option maxRecDepth 100000
set_option maxHeartbeats 2000000
/-! PDt: [..] * n as a new list, a display of a dict. -/
namespace PD
open PySem PySem.Spec PyProof.Rows L2 GxR GenX OwnK
section
variable {X : Cx} {F : Frm} {pos : Pos}
def gRep : D → D → Option D
  | .list ds, .int k => if -(2 ^ 63) ≤ k ∧ k < 2 ^ 63 ∧ ds.length * k.toNat ≤ sizeLine then some (.list (List.replicate k.toNat ds).flatten) else none
  | _, _ => none
theorem RelDs.rep {K : PySem.W.Frag} {S : Addr → Prop} {H : Hp} {xs : List V} {ds : List D} (r : RelDs K S H xs ds) : ∀ n : Nat, RelDs K S H (List.replicate n xs).flatten (List.replicate n ds).flatten
  | 0 => .nil
  | n + 1 => by
    rw [List.replicate_succ, List.replicate_succ, List.flatten_cons, List.flatten_cons]
    exact r.append (RelDs.rep r n)
theorem not_ow {B : List Addr} {A : Nat → Addr} {σ : L2.St} {H : Hp} {ρ : Rho} {p : Addr} (E : Ev F (p :: B) A σ H ρ) : ¬ Ow A ρ p := fun ⟨j, e, q, z⟩ => by
  by_cases hj : j ∈ F.io
  · exact (E.ios j hj).2.2.1 (z ▸ List.mem_cons_self)
  · exact (E.nS j e q hj).2.1 (z ▸ List.mem_cons_self)
theorem x_repN {a b : Expr} {m1 m2 : M D} {eff1 dep2 eff2 : List Nat} (ha : PE X a (rdN F m1 eff1)) (hb : PE X b (rd F m2 dep2 eff2)) : PE X (.BinOp a .Mult b pos) (rdN F (mBin gRep m1 m2) (eff1 ++ eff2)) := by
  refine PE.mono (pe_op op_rep ha hb) fun σ H Q ⟨B, A, ρ, d, ρ2, E, hm, k⟩ => ?_
  obtain ⟨d1, ρ1, d2, e1, e2, e3⟩ := mBin_some hm
  refine ⟨B, A, ρ, d1, ρ1, E, e1, fun p H1 P1 E1 hp r1 => ⟨p :: B, A, ρ1, d2, ρ2, E1, e2, fun v2 H2 P2 r2 => ?_⟩⟩
  unfold gRep at e3
  split at e3
  · rename_i ds n
    split at e3
    · rename_i hn
      cases e3
      have hi := (r2.rr P2.env).int
      obtain ⟨xs, hx, rx⟩ := r1
      have hx2 : H2 p = some (.lst xs) := P2.gro.keep _ _ hx (not_ow E1) (fun ps z => nomatch z)
      have P2' : Post F B A σ H1 ρ1 eff2 H2 ρ2 := ⟨P2.env.unhide, P2.gro, P2.lv⟩
      refine ⟨p, n, xs, rfl, hi, hx2, hn.1, hn.2.1, by rw [rx.length]; exact hn.2.2, fun p' hp' => ?_⟩
      refine rdN_lay (P1.trans P2') k hp' (Ext.new hp') ⟨_, upd_same, ?_⟩
      have r3 : RelDs F.K (Av F B A ρ2) H2 xs ds := rx.mono P2.gro (fun a z => by
        rcases P2'.lv.av z with z | z | z
        · exact .inl z
        · exact .inr (.inl (List.mem_cons_of_mem _ z))
        · exact .inr (.inr z)) fun a z => .inr (.inr z)
      exact ((r3.rep n.toNat).away hp' av_cons).ext (Ext.new hp')
    · cases e3
  · cases e3
/-! ### {k: v, ..} -/
def mPn : M (List (Key × D)) := fun ρ => some ([], ρ)
def mPc (mk mv : M D) (ms : M (List (Key × D))) : M (List (Key × D)) := fun ρ => match mk ρ with
  | some (kd, ρ1) => (match mv ρ1 with
    | some (d, ρ2) => (match keyD kd with
      | some key => (match ms ρ2 with
        | some (l, ρ3) => some ((key, d) :: l, ρ3)
        | none => none)
      | none => none)
    | none => none)
  | none => none
theorem mPc_some {mk mv : M D} {ms : M (List (Key × D))} {ρ ρ3 : Rho} {r : List (Key × D)} (h : mPc mk mv ms ρ = some (r, ρ3)) : ∃ kd ρ1 d ρ2 key l, mk ρ = some (kd, ρ1) ∧ mv ρ1 = some (d, ρ2) ∧ keyD kd = some key ∧ ms ρ2 = some (l, ρ3) ∧ r = (key, d) :: l := by
  unfold mPc at h
  split at h
  · rename_i kd ρ1 e1
    split at h
    · rename_i d ρ2 e2
      split at h
      · rename_i key e3
        split at h
        · rename_i l ρ3' e4
          cases h
          exact ⟨kd, ρ1, d, ρ2, key, l, e1, e2, e3, e4, rfl⟩
        · cases h
      · cases h
    · cases h
  · cases h
def mDisp (m : M (List (Key × D))) : M D := fun ρ => match m ρ with
  | some (l, ρ1) => if l.length ≤ 15 then some (.dict (dmerge [] l), ρ1) else none
  | none => none
def rdPs (F : Frm) (m : M (List (Key × D))) (eff : List Nat) (σ : L2.St) (H : Hp) (Q : List (V × V) → Hp → Prop) : Prop := ∃ B A ρ l ρ', Ev F B A σ H ρ ∧ m ρ = some (l, ρ') ∧ ∀ (kvs : List (Key × V)) H', Post F B A σ H ρ eff H' ρ' → RelPs F.K (Av F B A ρ') H' kvs l → Q (kvs.map fun kv => (kV kv.1, kv.2)) H'
structure XPs (X : Cx) (F : Frm) (pos : Pos) (keys : List (Option Expr)) (values : List Expr) (m : M (List (Key × D))) (eff : List Nat) : Prop where
  ex : ∃ trs, PPs X pos keys values trs ∧ ∀ σ H Q, rdPs F m eff σ H Q → tPairs trs σ H Q
theorem xps_nil : XPs X F pos [] [] mPn [] := ⟨⟨[], pps_nil, fun σ H Q ⟨B, A, ρ, l, ρ', E, hm, k⟩ => by
  cases hm
  exact k [] H (Post.refl E) .nil⟩⟩
theorem xps_cons {kx vx : Expr} {keys : List (Option Expr)} {values : List Expr} {mk mv : M D} {ms : M (List (Key × D))} {depk effk effv eff : List Nat} (hk : PE X kx (rd F mk depk effk)) (hv : PE X vx (rd F mv [] effv)) (hr : XPs X F pos keys values ms eff) :
    XPs X F pos (some kx :: keys) (vx :: values) (mPc mk mv ms) (effk ++ (effv ++ eff)) := by
  obtain ⟨trs, h1, h2⟩ := hr.ex
  refine ⟨⟨_, pps_cons hk hv h1, fun σ H Q ⟨B, A, ρ, r, ρ3, E, hm, k⟩ => ?_⟩⟩
  obtain ⟨kd, ρ1, d, ρ2, key, l, e1, e2, e3, e4, rfl⟩ := mPc_some hm
  refine ⟨B, A, ρ, kd, ρ1, E, e1, fun x H1 P1 r1 => ⟨B, A, ρ1, d, ρ2, P1.env, e2, fun y H2 P2 r2 => h2 σ H2 _ ⟨B, A, ρ2, l, ρ3, P2.env, e4, fun kvs H3 P3 rp => ?_⟩⟩⟩
  have ekd := keyD_some e3
  subst ekd
  have ex := (r1.rr P1.env).key
  subst ex
  exact k ((key, y) :: kvs) H3 (P1.trans (P2.trans P3)) (.cons (r2.later P3.gro P3.lv (fun i hi => absurd hi List.not_mem_nil)).plain rp)
theorem gro_upd {H : Hp} {p : Addr} {o u : HO} (h : H p = some o) (hn : ∀ ps, o ≠ .tbl ps) : Gro (fun a => a = p) H (upd H p u) := by
  refine ⟨fun a o' e n _ => by rw [upd_ne n]; exact e, fun P ⟨ps, e, t⟩ => ⟨ps, ?_, t⟩, fun a n => ?_⟩
  · have : P ≠ p := fun z => by rw [z, h] at e; exact hn ps (Option.some.inj e)
    rw [upd_ne this]; exact e
  · by_cases z : a = p
    · rw [z, upd_same]; simp
    · rw [upd_ne z]; exact n
theorem x_disp {keys : List (Option Expr)} {values : List Expr} {m : M (List (Key × D))} {eff : List Nat} (h : XPs X F pos keys values m eff) (hall : keys.all (·.isSome) = true := by rfl) (hl : keys.length = values.length := by rfl) (h0 : keys ≠ [] := by simp) (h15 : keys.length ≤ 15 := by decide) :
    PE X (.Dict keys values pos) (rdN F (mDisp m) eff) := by
  obtain ⟨trs, h1, h2⟩ := h.ex
  refine PE.mono (pe_disp h1 hall hl h0 h15) fun σ H Q ⟨B, A, ρ, d, ρ', E, hm, k⟩ => fun p hp => ?_
  unfold mDisp at hm
  split at hm
  · rename_i l ρ1 e
    split at hm
    · rename_i hle
      cases hm
      have E0 : Ev F (p :: B) A σ (upd H p (.dK [])) ρ := E.hide hp (Ext.new hp) (by rw [upd_same]; simp)
      refine h2 σ _ _ ⟨p :: B, A, ρ, l, ρ', E0, e, fun kvs H2 P2 rp => ?_⟩
      have hk2 : H2 p = some (.dK []) := P2.gro.keep _ _ upd_same (not_ow E0) (fun ps z => nomatch z)
      have hlen : kvs.length = l.length := by
        clear hk2 P2 e hle k
        induction rp with
        | nil => rfl
        | cons _ _ ih => simp [ih]
      refine ⟨hk2, kvs, rfl, by rw [hlen]; exact hle, ?_⟩
      have g : Gro (fun a => a = p) H2 (upd H2 p (.dK (mergeK [] kvs))) := gro_upd hk2 (fun ps z => nomatch z)
      have E2 := P2.env.writeB List.mem_cons_self g
      refine k p _ ⟨E2.unhide, ⟨fun a o e n t => ?_, fun P t => g.tabs P (P2.gro.tabs P ((Ext.new hp).gro (C := fun _ => False) |>.tabs P t)), fun a n => g.live a (P2.gro.live a ((Ext.new hp).live n))⟩, P2.lv⟩ E2 (fun z => (E.occB p z).1 hp) (.inl ⟨_, upd_same, ?_⟩)
      · have hne : a ≠ p := fun z => by rw [z, hp] at e; cases e
        rw [upd_ne hne]
        exact P2.gro.keep a o (by rw [upd_ne hne]; exact e) n t
      · exact (merge_rel rp .nil).mono g (fun a z => z) fun a z => .inr (.inl (z ▸ List.mem_cons_self))
    · cases hm
  · cases hm
end
end PD

set_option Elab.async false
set_option linter.all false
set_option maxRecDepth 100000
set_option maxHeartbeats 2000000
/-! PDu: zip of two or three lists or tuples; its items are laid as tuples of ours. -/
namespace PD
open PySem PySem.Spec PyProof.Rows L2 GxR GenX OwnK
/-! what is walked by place: a list (false) or a tuple (true) -/
def SqB (K : PySem.W.Frag) (H : Hp) (a : Addr) (xs : List V) : Bool → Prop
  | false => SqL K H a xs
  | true => SqT K H a xs
def hasB (h : Heap) (a : Addr) (its : Array Value) : Bool → Prop
  | false => h.IsList a its
  | true => h.IsTuple a its
def turnB (h : Heap) (it a : Addr) (i : Nat) : Bool → Prop
  | false => h.IsListIter it a i
  | true => h.IsTupleIter it a i
def objB (a : Addr) : Bool → Obj
  | false => { cls := .type "list_iterator", data := .fields #[.ref a, .int 0 0] }
  | true => { cls := .type "tuple_iterator", data := .fields #[.ref a, .int 0 0] }
section
variable {prog : Program} {w : World} {A : Around} {h h' : Heap} {it a : Addr} {i : Nat}
theorem drawB (hh : A.handled = none) (hne : a ≠ it) (its : Array Value) : ∀ b : Bool, Draws prog w A it [it, a] its.size (fun i v => its[i]? = some v) (fun i h => turnB h it a i b ∧ hasB h a its b)
  | false => Draws.list hh it a hne its
  | true => Draws.tuple hh it a hne its
theorem beginB (its : Array Value) : ∀ b : Bool, Begins (.ref a) (objB a b) fun h => hasB h a its b
  | false => begins_list a its
  | true => begins_tuple a its
theorem turnB_0 : ∀ b : Bool, h.get? it = some (objB a b) → turnB h it a 0 b
  | false, e => ⟨_, e, rfl, rfl⟩
  | true, e => ⟨_, e, rfl, rfl⟩
theorem turnB_at : ∀ b : Bool, turnB h it a i b → (∀ o, h.get? it = some o → h'.get? it = some o) → turnB h' it a i b
  | false, t, k => t.at k
  | true, t, k => t.at k
theorem turnB_obj : ∀ b : Bool, turnB h it a i b → ∃ o, h.get? it = some o ∧ ∀ v, o.data ≠ .cell v
  | false, ⟨o, e, _, d⟩ => ⟨o, e, fun v q => by rw [d] at q; cases q⟩
  | true, ⟨o, e, _, d⟩ => ⟨o, e, fun v q => by rw [d] at q; cases q⟩
theorem turnB_lt (b : Bool) (t : turnB h it a i b) : it < h.objs.size := let ⟨_, e, _⟩ := turnB_obj b t; Heap.lt_size e
end
section
variable {X : Cx} {pins : List (Addr × Obj)} {σ : L2.St} {H : Hp} {s : Shared} {a : Addr} {xs ys : List V}
theorem sqB_inv (I : Inv X pins σ H s) : ∀ b : Bool, SqB X.K H a xs b → ∃ its : List Value, Vals xs its ∧ hasB s.heap a its.toArray b ∧ a < s.heap.objs.size
  | false, q => let ⟨its, r, p, _⟩ := I.list q; ⟨its, r, p.isList, p.lt⟩
  | true, q => let ⟨its, r, p, _⟩ := I.tuple q; ⟨its, r, p, p.lt⟩
theorem sqB_same (I : Inv X pins σ H s) : ∀ b : Bool, SqB X.K H a xs b → SqB X.K H a ys b → xs = ys
  | false, q, q' => I.list_inj q q'
  | true, q, q' => I.tuple_inj q q'
end
/-- what stands at a place of the sources -/
def at2 (K : PySem.W.Frag) (b1 b2 : Bool) (a1 a2 : Addr) (i : Nat) (H : Hp) (x y : V) : Prop := (∀ l, SqB K H a1 l b1 → l[i]? = some x) ∧ ∀ l, SqB K H a2 l b2 → l[i]? = some y
def Zip2 (K : PySem.W.Frag) (b1 b2 : Bool) (a1 a2 : Addr) : It where
  go i H := ∃ l1 l2 x y, SqB K H a1 l1 b1 ∧ SqB K H a2 l2 b2 ∧ l1[i]? = some x ∧ l2[i]? = some y
  yld i H v H' := ∃ T o x y, v = .ref T ∧ H T = none ∧ o.cls = .type "tuple" ∧ o.dict = none ∧ H' = upd H T (.frz o (.tup [x, y])) ∧ at2 K b1 b2 a1 a2 i H x y
  stop i H := ∃ l1 l2, SqB K H a1 l1 b1 ∧ SqB K H a2 l2 b2 ∧ i ≤ l1.length ∧ i ≤ l2.length ∧ (i = l1.length ∨ i = l2.length)
def Zip3 (K : PySem.W.Frag) (b1 b2 b3 : Bool) (a1 a2 a3 : Addr) : It where
  go i H := ∃ l1 l2 l3 x y z, SqB K H a1 l1 b1 ∧ SqB K H a2 l2 b2 ∧ SqB K H a3 l3 b3 ∧ l1[i]? = some x ∧ l2[i]? = some y ∧ l3[i]? = some z
  yld i H v H' := ∃ T o x y z, v = .ref T ∧ H T = none ∧ o.cls = .type "tuple" ∧ o.dict = none ∧ H' = upd H T (.frz o (.tup [x, y, z])) ∧ at2 K b1 b2 a1 a2 i H x y ∧ ∀ l, SqB K H a3 l b3 → l[i]? = some z
  stop i H := ∃ l1 l2 l3, SqB K H a1 l1 b1 ∧ SqB K H a2 l2 b2 ∧ SqB K H a3 l3 b3 ∧ i ≤ l1.length ∧ i ≤ l2.length ∧ i ≤ l3.length ∧ (i = l1.length ∨ i = l2.length ∨ i = l3.length)
theorem out2 {c z TO i1 i2 TI : Addr} (h : c ∉ [z, TI, TO, i1, i2]) : c ≠ z ∧ c ≠ TO ∧ c ≠ i1 ∧ c ≠ i2 := by simp at h; exact ⟨h.1, h.2.2.1, h.2.2.2.1, h.2.2.2.2⟩
theorem out3 {c z TO i1 i2 i3 TI : Addr} (h : c ∉ [z, TI, TO, i1, i2, i3]) : c ≠ z ∧ c ≠ TO ∧ c ≠ i1 ∧ c ≠ i2 ∧ c ≠ i3 := by simp at h; exact ⟨h.1, h.2.2.1, h.2.2.2.1, h.2.2.2.2.1, h.2.2.2.2.2⟩
section
variable {P : Program} {w : World} {K : PySem.W.Frag} {elts : List Expr} {kk : Nat} {tpos : Pos} {b1 b2 b3 : Bool} {a1 a2 a3 z TI TO i1 i2 i3 : Addr}
theorem turn2 (S : ZipSep2 z TI TO i1 i2 [i1, a1] [i2, a2]) (n1 : a1 ≠ i1) (n2 : a2 ≠ i2) :
    Turn P w K (.Tuple elts kk tpos) (Zip2 K b1 b2 a1 a2) [z, TI, TO, i1, i2] z (fun i h => IsZip h z TI TO .none ∧ IsTupOf2 h TI (.ref i1) (.ref i2) ∧ (∃ x y, IsTupOf2 h TO x y) ∧ turnB h i1 a1 i b1 ∧ turnB h i2 a2 i b2) where
  mem := List.mem_cons_self
  obj := fun i h ⟨t1, t2, ⟨x, y, t3⟩, t4, t5⟩ c hc => by
    simp only [List.mem_cons, List.not_mem_nil, or_false] at hc
    rcases hc with rfl | rfl | rfl | rfl | rfl
    · exact ⟨_, t1, nofun⟩
    · exact ⟨_, t2, nofun⟩
    · exact ⟨_, t3, nofun⟩
    · exact turnB_obj b1 t4
    · exact turnB_obj b2 t5
  keep := fun i h h' ⟨t1, t2, ⟨x, y, t3⟩, t4, t5⟩ k =>
    ⟨k z (by simp) _ t1, k TI (by simp) _ t2, ⟨x, y, k TO (by simp) _ t3⟩, turnB_at b1 t4 (k i1 (by simp)), turnB_at b2 t5 (k i2 (by simp))⟩
  item := by
    rintro X rfl rfl rfl hc i pins s σ H E I hf ⟨t1, t2, ⟨x0, y0, t3⟩, t4, t5⟩ ⟨l1, l2, x, y, q1, q2, hx, hy⟩
    obtain ⟨us1, r1, p1, -⟩ := sqB_inv I b1 q1
    obtain ⟨us2, r2, p2, -⟩ := sqB_inv I b2 q2
    have hh : X.A.in1.handled = none := I.ok.hd hc
    have e1 := r1.length
    have e2 := r2.length
    have m1 := (List.getElem?_eq_some_iff.mp hx).1
    have m2 := (List.getElem?_eq_some_iff.mp hy).1
    refine wpAny_pyNext_zipD2_item S (drawB hh n1 us1.toArray b1) (drawB hh n2 us2.toArray b2) t1 t2 t3 ⟨t4, p1⟩ ⟨t5, p2⟩ (by simp; omega) (by simp; omega) fun u1 u2 h' tk g1 g2 z' o' ⟨f1, _⟩ ⟨f2, _⟩ new _ kp => ?_
    obtain ⟨v1, w1, ru1⟩ := r1.get hx
    obtain ⟨v2, w2, ru2⟩ := r2.get hy
    have c1 : v1 = u1 := by simp only [List.getElem?_toArray] at g1; rw [w1] at g1; exact Option.some.inj g1
    have c2 : v2 = u2 := by simp only [List.getElem?_toArray] at g2; rw [w2] at g2; exact Option.some.inj g2
    subst c1 c2
    refine ⟨_, rfl, wpAny_letOwnedTupleGo_zip (s := { s with heap := h', toks := tk }) z' fun h'' z'' sb => ?_⟩
    have hz := Heap.lt_size t1
    have new2 := (sb.2 _ (Nat.ne_of_gt hz)).trans new
    refine ⟨.ref s.heap.objs.size, _, I.turnedNew (t' := tk) (ch := [z, TI, TO, i1, i2]) (ob := .frz { cls := .type "tuple", data := .seq #[v1, v2] } (.tup [x, y])) (fun c o hb q => ?_) hf (Nat.le_refl _) ⟨new2, by show 2 ≤ sizeLine; decide, [v1, v2], .cons ru1 (.cons ru2 .nil), ⟨_, new2, rfl, _, rfl⟩⟩,
      rfl, ⟨_, _, x, y, rfl, I.hok.fresh (Nat.le_refl _), rfl, rfl, rfl, fun l hl => by rw [sqB_same I b1 hl q1]; exact hx, fun l hl => by rw [sqB_same I b2 hl q2]; exact hy⟩, ⟨z'', ?_, ⟨v1, v2, (sb.2 _ S.TOz).trans o'⟩, turnB_at b1 f1 fun o q => (sb.2 _ S.zi1.symm).trans q, turnB_at b2 f2 fun o q => (sb.2 _ S.zi2.symm).trans q⟩, fun c hcm => ?_⟩
    · obtain ⟨d1, d2, d3, d4⟩ := out2 hb
      exact (sb.2 c d1).trans (kp c o d1 d2 d3 d4 q)
    · exact (sb.2 _ S.TIz).trans (kp _ _ S.TIz S.TITO S.TIi1 S.TIi2 t2)
    · have lt : c < s.heap.objs.size := by
        simp only [List.mem_cons, List.not_mem_nil, or_false] at hcm
        rcases hcm with rfl | rfl | rfl | rfl | rfl
        · exact hz
        · exact Heap.lt_size t2
        · exact Heap.lt_size t3
        · exact turnB_lt b1 t4
        · exact turnB_lt b2 t5
      rw [upd_ne (Nat.ne_of_lt lt)]
      exact (hf c hcm).1
  done := by
    rintro X rfl rfl rfl hc i pins s σ H E I hf ⟨t1, t2, ⟨x0, y0, t3⟩, t4, t5⟩ ⟨l1, l2, q1, q2, m1, m2, me⟩
    obtain ⟨us1, r1, p1, -⟩ := sqB_inv I b1 q1
    obtain ⟨us2, r2, p2, -⟩ := sqB_inv I b2 q2
    have hh : X.A.in1.handled = none := I.ok.hd hc
    have e1 := r1.length
    have e2 := r2.length
    refine wpAny_pyNext_zipD2_end S (drawB hh n1 us1.toArray b1) (drawB hh n2 us2.toArray b2) t1 t2 t3 ⟨t4, p1⟩ ⟨t5, p2⟩ (by simp; omega) (by simp; omega) (by simp; omega) fun h' tk kp => ⟨rfl, I.turnedL (ch := [z, TI, TO, i1, i2]) (fun c o hb q => ?_) hf⟩
    obtain ⟨d1, d2, d3, d4⟩ := out2 hb
    exact kp c o d1 d2 d3 d4 q
  self := fun A i s Q E st h => wpAny_pyIter_zip st.1 h
theorem turn3 (S : ZipSep3 z TI TO i1 i2 i3 [i1, a1] [i2, a2] [i3, a3]) (n1 : a1 ≠ i1) (n2 : a2 ≠ i2) (n3 : a3 ≠ i3) :
    Turn P w K (.Tuple elts kk tpos) (Zip3 K b1 b2 b3 a1 a2 a3) [z, TI, TO, i1, i2, i3] z (fun i h => IsZip h z TI TO .none ∧ IsTupOf3 h TI (.ref i1) (.ref i2) (.ref i3) ∧ (∃ x y u, IsTupOf3 h TO x y u) ∧ turnB h i1 a1 i b1 ∧ turnB h i2 a2 i b2 ∧ turnB h i3 a3 i b3) where
  mem := List.mem_cons_self
  obj := fun i h ⟨t1, t2, ⟨x, y, u, t3⟩, t4, t5, t6⟩ c hc => by
    simp only [List.mem_cons, List.not_mem_nil, or_false] at hc
    rcases hc with rfl | rfl | rfl | rfl | rfl | rfl
    · exact ⟨_, t1, nofun⟩
    · exact ⟨_, t2, nofun⟩
    · exact ⟨_, t3, nofun⟩
    · exact turnB_obj b1 t4
    · exact turnB_obj b2 t5
    · exact turnB_obj b3 t6
  keep := fun i h h' ⟨t1, t2, ⟨x, y, u, t3⟩, t4, t5, t6⟩ k =>
    ⟨k z (by simp) _ t1, k TI (by simp) _ t2, ⟨x, y, u, k TO (by simp) _ t3⟩, turnB_at b1 t4 (k i1 (by simp)), turnB_at b2 t5 (k i2 (by simp)), turnB_at b3 t6 (k i3 (by simp))⟩
  item := by
    rintro X rfl rfl rfl hc i pins s σ H E I hf ⟨t1, t2, ⟨x0, y0, z0, t3⟩, t4, t5, t6⟩ ⟨l1, l2, l3, x, y, v, q1, q2, q3, hx, hy, hv⟩
    obtain ⟨us1, r1, p1, -⟩ := sqB_inv I b1 q1
    obtain ⟨us2, r2, p2, -⟩ := sqB_inv I b2 q2
    obtain ⟨us3, r3, p3, -⟩ := sqB_inv I b3 q3
    have hh : X.A.in1.handled = none := I.ok.hd hc
    have e1 := r1.length
    have e2 := r2.length
    have e3 := r3.length
    have m1 := (List.getElem?_eq_some_iff.mp hx).1
    have m2 := (List.getElem?_eq_some_iff.mp hy).1
    have m3 := (List.getElem?_eq_some_iff.mp hv).1
    refine wpAny_pyNext_zipD3_item S (drawB hh n1 us1.toArray b1) (drawB hh n2 us2.toArray b2) (drawB hh n3 us3.toArray b3) t1 t2 t3 ⟨t4, p1⟩ ⟨t5, p2⟩ ⟨t6, p3⟩ (by simp; omega) (by simp; omega) (by simp; omega) fun u1 u2 u3 h' tk g1 g2 g3 z' o' ⟨f1, _⟩ ⟨f2, _⟩ ⟨f3, _⟩ new _ kp => ?_
    obtain ⟨v1, w1, ru1⟩ := r1.get hx
    obtain ⟨v2, w2, ru2⟩ := r2.get hy
    obtain ⟨v3, w3, ru3⟩ := r3.get hv
    have c1 : v1 = u1 := by simp only [List.getElem?_toArray] at g1; rw [w1] at g1; exact Option.some.inj g1
    have c2 : v2 = u2 := by simp only [List.getElem?_toArray] at g2; rw [w2] at g2; exact Option.some.inj g2
    have c3 : v3 = u3 := by simp only [List.getElem?_toArray] at g3; rw [w3] at g3; exact Option.some.inj g3
    subst c1 c2 c3
    refine ⟨_, rfl, wpAny_letOwnedTupleGo_zip (s := { s with heap := h', toks := tk }) z' fun h'' z'' sb => ?_⟩
    have hz := Heap.lt_size t1
    have new2 := (sb.2 _ (Nat.ne_of_gt hz)).trans new
    refine ⟨.ref s.heap.objs.size, _, I.turnedNew (t' := tk) (ch := [z, TI, TO, i1, i2, i3]) (ob := .frz { cls := .type "tuple", data := .seq #[v1, v2, v3] } (.tup [x, y, v])) (fun c o hb q => ?_) hf (Nat.le_refl _) ⟨new2, by show 3 ≤ sizeLine; decide, [v1, v2, v3], .cons ru1 (.cons ru2 (.cons ru3 .nil)), ⟨_, new2, rfl, _, rfl⟩⟩,
      rfl, ⟨_, _, x, y, v, rfl, I.hok.fresh (Nat.le_refl _), rfl, rfl, rfl, ⟨fun l hl => by rw [sqB_same I b1 hl q1]; exact hx, fun l hl => by rw [sqB_same I b2 hl q2]; exact hy⟩, fun l hl => by rw [sqB_same I b3 hl q3]; exact hv⟩, ⟨z'', ?_, ⟨v1, v2, v3, (sb.2 _ S.TOz).trans o'⟩, turnB_at b1 f1 fun o q => (sb.2 _ S.zi1.symm).trans q, turnB_at b2 f2 fun o q => (sb.2 _ S.zi2.symm).trans q, turnB_at b3 f3 fun o q => (sb.2 _ S.zi3.symm).trans q⟩, fun c hcm => ?_⟩
    · obtain ⟨d1, d2, d3, d4, d5⟩ := out3 hb
      exact (sb.2 c d1).trans (kp c o d1 d2 d3 d4 d5 q)
    · exact (sb.2 _ S.TIz).trans (kp _ _ S.TIz S.TITO S.TIi1 S.TIi2 S.TIi3 t2)
    · have lt : c < s.heap.objs.size := by
        simp only [List.mem_cons, List.not_mem_nil, or_false] at hcm
        rcases hcm with rfl | rfl | rfl | rfl | rfl | rfl
        · exact hz
        · exact Heap.lt_size t2
        · exact Heap.lt_size t3
        · exact turnB_lt b1 t4
        · exact turnB_lt b2 t5
        · exact turnB_lt b3 t6
      rw [upd_ne (Nat.ne_of_lt lt)]
      exact (hf c hcm).1
  done := by
    rintro X rfl rfl rfl hc i pins s σ H E I hf ⟨t1, t2, ⟨x0, y0, z0, t3⟩, t4, t5, t6⟩ ⟨l1, l2, l3, q1, q2, q3, m1, m2, m3, me⟩
    obtain ⟨us1, r1, p1, -⟩ := sqB_inv I b1 q1
    obtain ⟨us2, r2, p2, -⟩ := sqB_inv I b2 q2
    obtain ⟨us3, r3, p3, -⟩ := sqB_inv I b3 q3
    have hh : X.A.in1.handled = none := I.ok.hd hc
    have e1 := r1.length
    have e2 := r2.length
    have e3 := r3.length
    refine wpAny_pyNext_zipD3_end S (drawB hh n1 us1.toArray b1) (drawB hh n2 us2.toArray b2) (drawB hh n3 us3.toArray b3) t1 t2 t3 ⟨t4, p1⟩ ⟨t5, p2⟩ ⟨t6, p3⟩ (by simp; omega) (by simp; omega) (by simp; omega) (by simp; omega) fun h' tk kp => ⟨rfl, I.turnedL (ch := [z, TI, TO, i1, i2, i3]) (fun c o hb q => ?_) hf⟩
    obtain ⟨d1, d2, d3, d4, d5⟩ := out3 hb
    exact kp c o d1 d2 d3 d4 d5 q
  self := fun A i s Q E st h => wpAny_pyIter_zip st.1 h
end
theorem sep2 {n a1 a2 : Addr} (h1 : a1 < n) (h2 : a2 < n) : ZipSep2 (n + 4) (n + 2) (n + 3) n (n + 1) [n, a1] [n + 1, a2] := zip_sep2 (fp1 := [a1]) (fp2 := [a2]) (by simpa using h1) (by simpa using h2)
theorem sep3 {n a1 a2 a3 : Addr} (h1 : a1 < n) (h2 : a2 < n) (h3 : a3 < n) : ZipSep3 (n + 5) (n + 3) (n + 4) n (n + 1) (n + 2) [n, a1] [n + 1, a2] [n + 2, a3] := zip_sep3 (fp1 := [a1]) (fp2 := [a2]) (fp3 := [a3]) (by simpa using h1) (by simpa using h2) (by simpa using h3)
theorem le2 {c n : Nat} (h : c ∈ [n + 4, n + 2, n + 3, n, n + 1]) : n ≤ c := by simp at h; omega
theorem le3 {c n : Nat} (h : c ∈ [n + 5, n + 3, n + 4, n, n + 1, n + 2]) : n ≤ c := by simp at h; omega
theorem neA {a n : Nat} (k : Nat) (h : a < n) : a ≠ n + k := by omega
def iZ2 (K : PySem.W.Frag) (ta : TA) : TI := fun σ H R => ta σ H fun vs H1 => ∃ b1 b2 a1 a2 l1 l2, vs = [.ref a1, .ref a2] ∧ SqB K H1 a1 l1 b1 ∧ SqB K H1 a2 l2 b2 ∧ R (Zip2 K b1 b2 a1 a2) H1
def iZ3 (K : PySem.W.Frag) (ta : TA) : TI := fun σ H R => ta σ H fun vs H1 => ∃ b1 b2 b3 a1 a2 a3 l1 l2 l3, vs = [.ref a1, .ref a2, .ref a3] ∧ SqB K H1 a1 l1 b1 ∧ SqB K H1 a2 l2 b2 ∧ SqB K H1 a3 l3 b3 ∧ R (Zip3 K b1 b2 b3 a1 a2 a3) H1
section
variable {X : Cx} {ta : TA} {p pos tpos : Pos} {elts : List Expr} {kk : Nat}
theorem pi_z2 {e1 e2 : Expr} (hg : Gl X "zip") (hm : X.mg "zip" = none) (ha : PA X [e1, e2] ta)
    (hs : starEach [e1, e2] X.env = (false, eval e1 X.env) :: starEach [e2] X.env := by rfl) (hpl : (backTo pos (starEach [e2] X.env)).any (·.1) = false := by rfl) :
    PI X (.Tuple elts kk tpos) (.Call (.Name "zip" p) [e1, e2] [] pos) (iZ2 X.K ta) := by
  refine ⟨fun pins s σ H R I hq => Call_ (ld_blt I hg hm PyProof.Rows.boot_zip (PyProof.Rows.callWith_type1 (thn (ha.run pos pins s σ H _ I hq) ?_) hs hpl))⟩
  rintro us s1 ⟨vs, H1, I1, rv, b1, b2, a1, a2, l1, l2, rfl, q1, q2, q⟩
  cases rv with
  | cons r rv =>
    cases rv with
    | cons r' rv =>
      cases rv
      cases r
      cases r'
      obtain ⟨us1, -, p1, m1⟩ := sqB_inv I1 b1 q1
      obtain ⟨us2, -, p2, m2⟩ := sqB_inv I1 b2 q2
      refine zip_begins2 (beginB us1.toArray b1) (beginB us2.toArray b2) p1 p2 fun h' z1 z2 z3 g1 g2 sz kp => wpAny_pyIter_zip z1 ?_
      exact ⟨_, [s1.heap.objs.size + 4, s1.heap.objs.size + 2, s1.heap.objs.size + 3, s1.heap.objs.size, s1.heap.objs.size + 1], _, _, H1, rfl, I1.kept (t' := s1.toks) kp, turn2 (sep2 m1 m2) (Nat.ne_of_lt m1) (neA 1 m2), ⟨z1, z2, ⟨_, _, z3⟩, turnB_0 b1 g1, turnB_0 b2 g2⟩,
        fun c hc => I1.fpOk (le2 hc) (I1.hok.fresh (le2 hc)), q⟩
theorem pi_z3 {e1 e2 e3 : Expr} (hg : Gl X "zip") (hm : X.mg "zip" = none) (ha : PA X [e1, e2, e3] ta)
    (hs : starEach [e1, e2, e3] X.env = (false, eval e1 X.env) :: starEach [e2, e3] X.env := by rfl) (hpl : (backTo pos (starEach [e2, e3] X.env)).any (·.1) = false := by rfl) :
    PI X (.Tuple elts kk tpos) (.Call (.Name "zip" p) [e1, e2, e3] [] pos) (iZ3 X.K ta) := by
  refine ⟨fun pins s σ H R I hq => Call_ (ld_blt I hg hm PyProof.Rows.boot_zip (PyProof.Rows.callWith_type1 (thn (ha.run pos pins s σ H _ I hq) ?_) hs hpl))⟩
  rintro us s1 ⟨vs, H1, I1, rv, b1, b2, b3, a1, a2, a3, l1, l2, l3, rfl, q1, q2, q3, q⟩
  cases rv with
  | cons r rv =>
    cases rv with
    | cons r' rv =>
      cases rv with
      | cons r'' rv =>
        cases rv
        cases r
        cases r'
        cases r''
        obtain ⟨us1, -, p1, m1⟩ := sqB_inv I1 b1 q1
        obtain ⟨us2, -, p2, m2⟩ := sqB_inv I1 b2 q2
        obtain ⟨us3, -, p3, m3⟩ := sqB_inv I1 b3 q3
        refine zip_begins3 (beginB us1.toArray b1) (beginB us2.toArray b2) (beginB us3.toArray b3) p1 p2 p3 fun h' z1 z2 z3 g1 g2 g3 sz kp => wpAny_pyIter_zip z1 ?_
        exact ⟨_, [s1.heap.objs.size + 5, s1.heap.objs.size + 3, s1.heap.objs.size + 4, s1.heap.objs.size, s1.heap.objs.size + 1, s1.heap.objs.size + 2], _, _, H1, rfl, I1.kept (t' := s1.toks) kp, turn3 (sep3 m1 m2 m3) (Nat.ne_of_lt m1) (neA 1 m2) (neA 2 m3), ⟨z1, z2, ⟨_, _, _, z3⟩, turnB_0 b1 g1, turnB_0 b2 g2, turnB_0 b3 g3⟩,
          fun c hc => I1.fpOk (le3 hc) (I1.hok.fresh (le3 hc)), q⟩
end
/-! the data -/
def gZip : List D → Option (List D)
  | [a, b] => (match gItems a, gItems b with
    | some x, some y => some (List.zipWith (fun u v => .tuple [u, v]) x y)
    | _, _ => none)
  | [a, b, c] => (match gItems a, gItems b, gItems c with
    | some x, some y, some z => some (List.zipWith (fun u (p : D × D) => .tuple [u, p.1, p.2]) x (y.zip z))
    | _, _, _ => none)
  | _ => none
theorem relB {K : PySem.W.Frag} {S : Addr → Prop} {H : Hp} {v : V} {d : D} {ds : List D} (r : RelD K S H v d) (e : gItems d = some ds) : ∃ b a, v = .ref a ∧ (∃ xs, SqB K H a xs b) ∧
    ∀ S' H', RelD K S' H' (.ref a) d → ∃ xs, SqB K H' a xs b ∧ RelDs K S' H' xs ds := by
  cases d with
  | list l =>
    cases e
    obtain ⟨a, xs, rfl, h1, h2⟩ := RR.list (.inl r)
    refine ⟨false, a, rfl, ⟨xs, h1⟩, fun S' H' r' => ?_⟩
    obtain ⟨a', xs', e', h1', h2'⟩ := RR.list (.inl r')
    cases e'
    exact ⟨xs', h1', h2'⟩
  | tuple l =>
    cases e
    obtain ⟨a, xs, rfl, h1, h2⟩ := RR.tuple (.inl r)
    refine ⟨true, a, rfl, ⟨xs, h1⟩, fun S' H' r' => ?_⟩
    obtain ⟨a', xs', e', h1', h2'⟩ := RR.tuple (.inl r')
    cases e'
    exact ⟨xs', h1', h2'⟩
  | _ => cases e
section
variable {K : PySem.W.Frag}
theorem relDs_at {S : Addr → Prop} {H : Hp} {xs : List V} {ds : List D} {i : Nat} (r : RelDs K S H xs ds) (h : i < ds.length) : ∃ v, xs[i]? = some v ∧ RelD K S H v ds[i] := r.get (List.getElem?_eq_getElem h)
theorem it_z2 {b1 b2 : Bool} {a1 a2 : Addr} {d1 d2 : D} {x y : List D} (k1 : ∀ S' H', RelD K S' H' (.ref a1) d1 → ∃ xs, SqB K H' a1 xs b1 ∧ RelDs K S' H' xs x) (k2 : ∀ S' H', RelD K S' H' (.ref a2) d2 → ∃ xs, SqB K H' a2 xs b2 ∧ RelDs K S' H' xs y) :
    ItOk K (Zip2 K b1 b2 a1 a2) (List.zipWith (fun u v => .tuple [u, v]) x y) [(.ref a1, d1), (.ref a2, d2)] := by
  refine ⟨fun i S H r hi => ?_, fun S H r => ?_, fun i S H v H' r hS hi y' => ?_⟩
  · obtain ⟨l1, s1, c1⟩ := k1 S H (r (.ref a1, d1) (by simp))
    obtain ⟨l2, s2, c2⟩ := k2 S H (r (.ref a2, d2) (by simp))
    simp only [List.length_zipWith] at hi
    obtain ⟨v1, e1, _⟩ := relDs_at c1 (show i < x.length by omega)
    obtain ⟨v2, e2, _⟩ := relDs_at c2 (show i < y.length by omega)
    exact ⟨l1, l2, v1, v2, s1, s2, e1, e2⟩
  · obtain ⟨l1, s1, c1⟩ := k1 S H (r (.ref a1, d1) (by simp))
    obtain ⟨l2, s2, c2⟩ := k2 S H (r (.ref a2, d2) (by simp))
    have m1 := c1.length
    have m2 := c2.length
    refine ⟨l1, l2, s1, s2, ?_, ?_, ?_⟩ <;> simp only [List.length_zipWith] <;> omega
  · obtain ⟨l1, s1, c1⟩ := k1 S H (r (.ref a1, d1) (by simp))
    obtain ⟨l2, s2, c2⟩ := k2 S H (r (.ref a2, d2) (by simp))
    simp only [List.length_zipWith] at hi
    obtain ⟨T, o, v1, v2, rfl, hT, ho, hd, rfl, f1, f2⟩ := y'
    obtain ⟨u1, e1, g1⟩ := relDs_at c1 (show i < x.length by omega)
    obtain ⟨u2, e2, g2⟩ := relDs_at c2 (show i < y.length by omega)
    cases (f1 l1 s1).symm.trans e1
    cases (f2 l2 s2).symm.trans e2
    refine ⟨Ext.new hT, .tuple [x[i], y[i]], ?_, .tup (fun z => hS T z hT) ⟨o, upd_same, ho, hd⟩ (RelDs.ext (Ext.new hT) (.cons g1 (.cons g2 .nil)))⟩
    rw [List.getElem?_zipWith, List.getElem?_eq_getElem (show i < x.length by omega), List.getElem?_eq_getElem (show i < y.length by omega)]
theorem it_z3 {b1 b2 b3 : Bool} {a1 a2 a3 : Addr} {d1 d2 d3 : D} {x y z : List D} (k1 : ∀ S' H', RelD K S' H' (.ref a1) d1 → ∃ xs, SqB K H' a1 xs b1 ∧ RelDs K S' H' xs x) (k2 : ∀ S' H', RelD K S' H' (.ref a2) d2 → ∃ xs, SqB K H' a2 xs b2 ∧ RelDs K S' H' xs y)
    (k3 : ∀ S' H', RelD K S' H' (.ref a3) d3 → ∃ xs, SqB K H' a3 xs b3 ∧ RelDs K S' H' xs z) :
    ItOk K (Zip3 K b1 b2 b3 a1 a2 a3) (List.zipWith (fun u (p : D × D) => .tuple [u, p.1, p.2]) x (y.zip z)) [(.ref a1, d1), (.ref a2, d2), (.ref a3, d3)] := by
  refine ⟨fun i S H r hi => ?_, fun S H r => ?_, fun i S H v H' r hS hi y' => ?_⟩
  · obtain ⟨l1, s1, c1⟩ := k1 S H (r (.ref a1, d1) (by simp))
    obtain ⟨l2, s2, c2⟩ := k2 S H (r (.ref a2, d2) (by simp))
    obtain ⟨l3, s3, c3⟩ := k3 S H (r (.ref a3, d3) (by simp))
    simp only [List.length_zipWith, List.length_zip] at hi
    obtain ⟨v1, e1, _⟩ := relDs_at c1 (show i < x.length by omega)
    obtain ⟨v2, e2, _⟩ := relDs_at c2 (show i < y.length by omega)
    obtain ⟨v3, e3, _⟩ := relDs_at c3 (show i < z.length by omega)
    exact ⟨l1, l2, l3, v1, v2, v3, s1, s2, s3, e1, e2, e3⟩
  · obtain ⟨l1, s1, c1⟩ := k1 S H (r (.ref a1, d1) (by simp))
    obtain ⟨l2, s2, c2⟩ := k2 S H (r (.ref a2, d2) (by simp))
    obtain ⟨l3, s3, c3⟩ := k3 S H (r (.ref a3, d3) (by simp))
    have m1 := c1.length
    have m2 := c2.length
    have m3 := c3.length
    refine ⟨l1, l2, l3, s1, s2, s3, ?_, ?_, ?_, ?_⟩ <;> simp only [List.length_zipWith, List.length_zip] <;> omega
  · obtain ⟨l1, s1, c1⟩ := k1 S H (r (.ref a1, d1) (by simp))
    obtain ⟨l2, s2, c2⟩ := k2 S H (r (.ref a2, d2) (by simp))
    obtain ⟨l3, s3, c3⟩ := k3 S H (r (.ref a3, d3) (by simp))
    simp only [List.length_zipWith, List.length_zip] at hi
    obtain ⟨T, o, v1, v2, v3, rfl, hT, ho, hd, rfl, ⟨f1, f2⟩, f3⟩ := y'
    obtain ⟨u1, e1, g1⟩ := relDs_at c1 (show i < x.length by omega)
    obtain ⟨u2, e2, g2⟩ := relDs_at c2 (show i < y.length by omega)
    obtain ⟨u3, e3, g3⟩ := relDs_at c3 (show i < z.length by omega)
    cases (f1 l1 s1).symm.trans e1
    cases (f2 l2 s2).symm.trans e2
    cases (f3 l3 s3).symm.trans e3
    refine ⟨Ext.new hT, .tuple [x[i], y[i], z[i]], ?_, .tup (fun z => hS T z hT) ⟨o, upd_same, ho, hd⟩ (RelDs.ext (Ext.new hT) (.cons g1 (.cons g2 (.cons g3 .nil))))⟩
    rw [List.getElem?_zipWith, List.getElem?_eq_getElem (show i < x.length by omega), List.getElem?_eq_getElem (show i < (y.zip z).length by simp only [List.length_zip]; omega), List.getElem_zip]
end
section
variable {X : Cx} {F : Frm} {pos p tpos : Pos} {elts : List Expr} {kk : Nat}
theorem w_zip2 {a b : Expr} {m : M (List D)} {eff : List Nat} (hlen : MLen 2 m) (hg : Gl X "zip") (hm : X.mg "zip" = none) (ha : PA X [a, b] (rdA F m [] eff)) (hs : starEach [a, b] X.env = (false, eval a X.env) :: starEach [b] X.env := by rfl) (hpl : (backTo pos (starEach [b] X.env)).any (·.1) = false := by rfl) (hK : X.K = F.K := by rfl) :
    PI X (.Tuple elts kk tpos) (.Call (.Name "zip" p) [a, b] [] pos) (rdI F (mRange gZip m) eff) := by
  refine PI.mono (pi_z2 hg hm ha hs hpl) fun σ H R ⟨B, A, ρ, ds, ρ', E, hm, k⟩ => ?_
  obtain ⟨l, q, q2⟩ := mRange_some hm
  refine ⟨B, A, ρ, l, ρ', E, q, fun vs H1 P1 r1 => ?_⟩
  have rs := Val.plains r1
  match l, hlen _ _ _ q with
  | [d1, d2], _ =>
    unfold gZip at q2
    simp only at q2
    split at q2
    · rename_i x y e1 e2
      cases q2
      cases rs with
      | cons c1 rs => cases rs with
        | cons c2 rs =>
          cases rs
          obtain ⟨b1, a1, rfl, ⟨xs1, s1⟩, k1⟩ := relB c1 e1
          obtain ⟨b2, a2, rfl, ⟨xs2, s2⟩, k2⟩ := relB c2 e2
          rw [hK]
          exact ⟨b1, b2, a1, a2, xs1, xs2, rfl, s1, s2, k _ [(.ref a1, d1), (.ref a2, d2)] H1 P1 (by simp; exact ⟨c1, c2⟩) (it_z2 k1 k2)⟩
    · cases q2
theorem w_zip3 {a b c : Expr} {m : M (List D)} {eff : List Nat} (hlen : MLen 3 m) (hg : Gl X "zip") (hm : X.mg "zip" = none) (ha : PA X [a, b, c] (rdA F m [] eff)) (hs : starEach [a, b, c] X.env = (false, eval a X.env) :: starEach [b, c] X.env := by rfl) (hpl : (backTo pos (starEach [b, c] X.env)).any (·.1) = false := by rfl) (hK : X.K = F.K := by rfl) :
    PI X (.Tuple elts kk tpos) (.Call (.Name "zip" p) [a, b, c] [] pos) (rdI F (mRange gZip m) eff) := by
  refine PI.mono (pi_z3 hg hm ha hs hpl) fun σ H R ⟨B, A, ρ, ds, ρ', E, hm, k⟩ => ?_
  obtain ⟨l, q, q2⟩ := mRange_some hm
  refine ⟨B, A, ρ, l, ρ', E, q, fun vs H1 P1 r1 => ?_⟩
  have rs := Val.plains r1
  match l, hlen _ _ _ q with
  | [d1, d2, d3], _ =>
    unfold gZip at q2
    simp only at q2
    split at q2
    · rename_i x y z e1 e2 e3
      cases q2
      cases rs with
      | cons c1 rs => cases rs with
        | cons c2 rs => cases rs with
          | cons c3 rs =>
            cases rs
            obtain ⟨b1, a1, rfl, ⟨xs1, s1⟩, k1⟩ := relB c1 e1
            obtain ⟨b2, a2, rfl, ⟨xs2, s2⟩, k2⟩ := relB c2 e2
            obtain ⟨b3, a3, rfl, ⟨xs3, s3⟩, k3⟩ := relB c3 e3
            rw [hK]
            exact ⟨b1, b2, b3, a1, a2, a3, xs1, xs2, xs3, rfl, s1, s2, s3, k _ [(.ref a1, d1), (.ref a2, d2), (.ref a3, d3)] H1 P1 (by simp; exact ⟨c1, c2, c3⟩) (it_z3 k1 k2 k3)⟩
    · cases q2
end
end PD

set_option Elab.async false
set_option linter.all false
set_option maxRecDepth 100000
set_option maxHeartbeats 4000000
/-! PDv: enumerate of a list or a tuple. -/
namespace PD
open PySem PySem.Spec PyProof.Rows L2 GxR GenX OwnK
open PySem.Sem (wp)
/-- the record of enumerate over the iterator at n -/
def enumO (n : Addr) : Obj := { cls := .type "enumerate", data := .fields #[.none, .bool false, .ref n, rawInt 0, .none, .none] }
theorem enum_new1 {v : Value} {o : Obj} {G : Heap → Prop} (B : Begins v o G) :
    Meets (Builtin.«enumerate.__new__» ⟨[.type "enumerate", v], []⟩) (fun _ R s => G s.heap ∧ R (.ok (.ret (.ref (s.heap.push o).objs.size))) { s with heap := (s.heap.push o).push (enumO s.heap.objs.size) }) :=
  .of_wp fun prog w A R ⟨hp, g, d, tk, os⟩ ⟨hG, hR⟩ => by
    have st := sub_enumerate
    have go : ∀ {A1 : Around} {E : Value → Shared → Prop} {Q : Value → Shared → Prop}, Q (.ref hp.objs.size) ⟨hp.push o, g, d, tk, os⟩ → wpAny (model prog w) A1 (pyIter v) Q E ⟨hp, g, d, tk, os⟩ := fun q => B.iter prog w _ _ ⟨hp, g, d, tk, os⟩ _ hG q
    wp_walk using go
    refine wpAny_stack_any fun ks => wpAny_pure ?_
    split
    · generalize (_ == Value.type "enumerate") = q
      cases q <;> (wp_walk using go) <;> exact ⟨_, rfl, hR⟩
    · (wp_walk using go) <;> exact ⟨_, rfl, hR⟩
theorem enum_begins1 {prog : Program} {w : World} {A : Around} {E : Value → Shared → Prop} {s : Shared} {v : Value} {o : Obj} {G : Heap → Prop} {Q : Value → Shared → Prop} (B : Begins v o G) (hG : G s.heap)
    (k : ∀ h', IsEnum h' (s.heap.objs.size + 1) s.heap.objs.size 0 .none → h'.get? s.heap.objs.size = some o → (∀ b u, s.heap.get? b = some u → h'.get? b = some u) → Q (.ref (s.heap.objs.size + 1)) { s with heap := h' }) :
    wpAny (model prog w) A (call (.type "enumerate") [v]) Q E s := by
  refine callType_new F.called_enumerate (by decide) (F.typeCall_enumerate_1 _) (F.newCall_enumerate_1 _) (fun x => F.args_object_init_2 x _) F.entry_enumerate_new (enum_new1 B) ⟨hG, ?_⟩
  have sz : (s.heap.push o).objs.size = s.heap.objs.size + 1 := Heap.size_push ..
  have he : ((s.heap.push o).push (enumO s.heap.objs.size)).get? (s.heap.push o).objs.size = some (enumO s.heap.objs.size) := Heap.get?_push_size _ rfl
  show _ ∧ _
  rw [sz] at he ⊢
  exact ⟨⟨_, he, rfl⟩, k _ he (Heap.get?_push_of_some _ (Heap.get?_push_size _ B.free)) fun b u x => Heap.get?_push_of_some _ (Heap.get?_push_of_some _ x)⟩
def Enum1 (K : PySem.W.Frag) (b : Bool) (a : Addr) : It where
  go i H := ∃ l x, SqB K H a l b ∧ l[i]? = some x
  yld i H v H' := ∃ T o x, v = .ref T ∧ H T = none ∧ o.cls = .type "tuple" ∧ o.dict = none ∧ H' = upd H T (.frz o (.tup [.int (i : Nat), x])) ∧ ∀ l, SqB K H a l b → l[i]? = some x
  stop i H := ∃ l, SqB K H a l b ∧ i = l.length
theorem turn1 {P : Program} {w : World} {K : PySem.W.Frag} {elts : List Expr} {kk : Nat} {tpos : Pos} {b : Bool} {a e it : Addr} (n0 : e ≠ it) (n1 : a ≠ it) (n2 : e ≠ a) :
    Turn P w K (.Tuple elts kk tpos) (Enum1 K b a) [e, it] e (fun i h => (∃ old, IsEnum h e it ((i : Nat) : Int) old) ∧ turnB h it a i b) where
  mem := List.mem_cons_self
  obj := fun i h ⟨⟨old, t1⟩, t2⟩ c hc => by
    simp only [List.mem_cons, List.not_mem_nil, or_false] at hc
    rcases hc with rfl | rfl
    · exact ⟨_, t1, nofun⟩
    · exact turnB_obj b t2
  keep := fun i h h' ⟨⟨old, t1⟩, t2⟩ k => ⟨⟨old, k e (by simp) _ t1⟩, turnB_at b t2 (k it (by simp))⟩
  item := by
    rintro X rfl rfl rfl hc i pins s σ H E I hf ⟨⟨old, t1⟩, t2⟩ ⟨l, x, q, hx⟩
    obtain ⟨us, r, p, -⟩ := sqB_inv I b q
    have hh : X.A.in1.handled = none := I.ok.hd hc
    have e1 := r.length
    have m1 := (List.getElem?_eq_some_iff.mp hx).1
    refine wpAny_pyNext_enum_itemD (drawB hh n1 us.toArray b) t1 ⟨t2, p⟩ (by simp; omega) n0 (by simp; exact ⟨n0, n2⟩) fun u h' tk g1 o' ⟨f1, _⟩ new _ kp => ?_
    obtain ⟨v1, w1, ru⟩ := r.get hx
    have c1 : v1 = u := by simp only [List.getElem?_toArray] at g1; rw [w1] at g1; exact Option.some.inj g1
    subst c1
    refine ⟨_, rfl, wpAny_letOwnedTupleGo_enum (s := { s with heap := h', toks := tk + 1 }) o' fun h'' e'' sb => ?_⟩
    have hz := Heap.lt_size t1
    have new2 := (sb.2 _ (Nat.ne_of_gt hz)).trans new
    refine ⟨.ref s.heap.objs.size, _, I.turnedNew (t' := tk + 1) (ch := [e, it]) (ob := .frz { cls := .type "tuple", data := .seq #[.int i tk, v1] } (.tup [.int (i : Nat), x])) (fun c o hb q => ?_) hf (Nat.le_refl _) ⟨new2, by show 2 ≤ sizeLine; decide, [.int i tk, v1], .cons ⟨_, rfl⟩ (.cons ru .nil), ⟨_, new2, rfl, _, rfl⟩⟩,
      rfl, ⟨_, _, x, rfl, I.hok.fresh (Nat.le_refl _), rfl, rfl, rfl, fun l' hl => by rw [sqB_same I b hl q]; exact hx⟩, ⟨⟨v1, ?_⟩, turnB_at b f1 fun o q => (sb.2 _ n0.symm).trans q⟩, fun c hcm => ?_⟩
    · simp at hb
      exact (sb.2 c hb.1).trans (kp c o hb.1 hb.2 q)
    · have z : ((i + 1 : Nat) : Int) = (i : Int) + 1 := by omega
      rw [z]
      exact e''
    · have lt : c < s.heap.objs.size := by
        simp only [List.mem_cons, List.not_mem_nil, or_false] at hcm
        rcases hcm with rfl | rfl
        · exact hz
        · exact turnB_lt b t2
      rw [upd_ne (Nat.ne_of_lt lt)]
      exact (hf c hcm).1
  done := by
    rintro X rfl rfl rfl hc i pins s σ H E I hf ⟨⟨old, t1⟩, t2⟩ ⟨l, q, me⟩
    obtain ⟨us, r, p, -⟩ := sqB_inv I b q
    have hh : X.A.in1.handled = none := I.ok.hd hc
    have e1 := r.length
    have z : i = us.toArray.size := by simp; omega
    refine wpAny_pyNext_enum_endD (drawB hh n1 us.toArray b) t1 (by rw [← z]; exact ⟨t2, p⟩) fun h' eb => ⟨rfl, I.turnedL (t' := s.toks) (ch := [e, it]) (fun c o hb q => ?_) hf⟩
    simp at hb
    exact eb c o hb.2 q
  self := fun A i s Q E ⟨⟨_, t1⟩, _⟩ h => wpAny_pyIter_enum t1 h
def iE1 (K : PySem.W.Frag) (ta : TA) : TI := fun σ H R => ta σ H fun vs H1 => ∃ b a l, vs = [.ref a] ∧ SqB K H1 a l b ∧ R (Enum1 K b a) H1
theorem le1 {c n : Nat} (h : c ∈ [n + 1, n]) : n ≤ c := by simp at h; omega
theorem pi_e1 {X : Cx} {ta : TA} {p pos tpos : Pos} {elts : List Expr} {kk : Nat} {e1 : Expr} (hg : Gl X "enumerate") (hm : X.mg "enumerate" = none) (ha : PA X [e1] ta) (hs : starEach [e1] X.env = [(false, eval e1 X.env)] := by rfl) :
    PI X (.Tuple elts kk tpos) (.Call (.Name "enumerate" p) [e1] [] pos) (iE1 X.K ta) := by
  refine ⟨fun pins s σ H R I hq => Call_ (ld_blt I hg hm boot_enumerate (PyProof.Rows.callWith_type1 (thn (ha.run pos pins s σ H _ I hq) ?_) hs rfl))⟩
  rintro us s1 ⟨vs, H1, I1, rv, b, a, l, rfl, q1, q⟩
  cases rv with
  | cons r rv =>
    cases rv
    cases r
    obtain ⟨us1, -, p1, m1⟩ := sqB_inv I1 b q1
    refine enum_begins1 (beginB us1.toArray b) p1 fun h' z1 g1 kp => wpAny_pyIter_enum z1 ?_
    exact ⟨_, [s1.heap.objs.size + 1, s1.heap.objs.size], _, _, H1, rfl, I1.kept (t' := s1.toks) kp, turn1 (Nat.succ_ne_self _) (Nat.ne_of_lt m1) (Nat.ne_of_gt (Nat.lt_succ_of_lt m1)), ⟨⟨_, z1⟩, turnB_0 b g1⟩, fun c hc => I1.fpOk (le1 hc) (I1.hok.fresh (le1 hc)), q⟩
def gEnum : List D → Option (List D)
  | [a] => (match gItems a with
    | some x => some (List.zipWith (fun (i : Nat) u => .tuple [.int i, u]) (List.range x.length) x)
    | none => none)
  | _ => none
theorem it_e1 {K : PySem.W.Frag} {b : Bool} {a : Addr} {d : D} {x : List D} (k1 : ∀ S' H', RelD K S' H' (.ref a) d → ∃ xs, SqB K H' a xs b ∧ RelDs K S' H' xs x) :
    ItOk K (Enum1 K b a) (List.zipWith (fun (i : Nat) u => .tuple [.int i, u]) (List.range x.length) x) [(.ref a, d)] := by
  refine ⟨fun i S H r hi => ?_, fun S H r => ?_, fun i S H v H' r hS hi y' => ?_⟩
  · obtain ⟨l1, s1, c1⟩ := k1 S H (r _ List.mem_cons_self)
    simp only [List.length_zipWith, List.length_range, Nat.min_self] at hi
    obtain ⟨v1, e1, _⟩ := relDs_at c1 hi
    exact ⟨l1, v1, s1, e1⟩
  · obtain ⟨l1, s1, c1⟩ := k1 S H (r _ List.mem_cons_self)
    have m1 := c1.length
    refine ⟨l1, s1, ?_⟩
    simp only [List.length_zipWith, List.length_range, Nat.min_self]
    omega
  · obtain ⟨l1, s1, c1⟩ := k1 S H (r _ List.mem_cons_self)
    simp only [List.length_zipWith, List.length_range, Nat.min_self] at hi
    obtain ⟨T, o, v1, rfl, hT, ho, hd, rfl, f1⟩ := y'
    obtain ⟨u1, e1, g1⟩ := relDs_at c1 hi
    cases (f1 l1 s1).symm.trans e1
    refine ⟨Ext.new hT, .tuple [.int (i : Nat), x[i]], ?_, .tup (fun z => hS T z hT) ⟨o, upd_same, ho, hd⟩ (RelDs.ext (Ext.new hT) (.cons (.int _) (.cons g1 .nil)))⟩
    rw [List.getElem?_zipWith, List.getElem?_eq_getElem (show i < (List.range x.length).length by simpa using hi), List.getElem?_eq_getElem hi]
    simp
theorem w_enum {X : Cx} {F : Frm} {pos p tpos : Pos} {elts : List Expr} {kk : Nat} {a : Expr} {m : M (List D)} {eff : List Nat} (hlen : MLen 1 m) (hg : Gl X "enumerate") (hm : X.mg "enumerate" = none) (ha : PA X [a] (rdA F m [] eff)) (hs : starEach [a] X.env = [(false, eval a X.env)] := by rfl) (hK : X.K = F.K := by rfl) :
    PI X (.Tuple elts kk tpos) (.Call (.Name "enumerate" p) [a] [] pos) (rdI F (mRange gEnum m) eff) := by
  refine PI.mono (pi_e1 hg hm ha hs) fun σ H R ⟨B, A, ρ, ds, ρ', E, hm, k⟩ => ?_
  obtain ⟨l, q, q2⟩ := mRange_some hm
  refine ⟨B, A, ρ, l, ρ', E, q, fun vs H1 P1 r1 => ?_⟩
  have rs := Val.plains r1
  match l, hlen _ _ _ q with
  | [d1], _ =>
    unfold gEnum at q2
    simp only at q2
    split at q2
    · rename_i x e1
      cases q2
      cases rs with
      | cons c1 rs =>
        cases rs
        obtain ⟨b1, a1, rfl, ⟨xs1, s1⟩, k1⟩ := relB c1 e1
        rw [hK]
        exact ⟨b1, a1, xs1, rfl, s1, k _ [(.ref a1, d1)] H1 P1 (fun r hr => by rw [List.mem_singleton.mp hr]; exact c1) (it_e1 k1)⟩
    · cases q2
end PD

set_option Elab.async false
set_option linter.all false
set_option maxRecDepth 100000
set_option maxHeartbeats 2000000
/-! PDw: name[k1], name[k2] = two values. -/
namespace PD
open PySem PySem.Spec PyProof.Rows L2 GxR GenX OwnK
section
variable {X : Cx} {F : Frm} {pos xp pos' : Pos}
def PutG (F : Frm) (i : Nat) (mk : M D) (effk : List Nat) : TG := fun v σ H Q => ∃ A ρ d ρ', Ev F [] A σ H ρ ∧ RelD F.K (Av F [] A ρ) H v d ∧ mPut i mk (fun r => some (d, r)) ρ = some (.nx ρ') ∧ ∀ H', Post F [] A σ H ρ (effk ++ [i]) H' ρ' → Q σ H'
theorem pg_put {i : Nat} {x : Str} {k : Expr} {mk : M D} {depk effk : List Nat} (hu : X.A.units + 1 < cLine) (hN : X.N[i]? = some x) (hv : Vis X.env.scope x) (hk : PE X k (rd F mk depk effk)) (hne : i ∉ effk)
    (hd : (x == ("__debug__" : Str)) = false) (hcd : (x == ("__classdict__" : Str)) = false)
    (ha : ∀ v, assign (.Subscript (.Name x xp) k pos') X.env v = (do
      let ov ← holding [v] (eval (.Name x xp) X.env)
      let iv ← holding [v, ov] (eval k X.env)
      standAt pos'
      holding [v, ov, iv] (setItem ov iv v)
      release [v, ov, iv] [])) : PG X (.Subscript (.Name x xp) k pos') (PutG F i mk effk) := by
  refine ⟨fun pins s1 σ H v r Q I1 rv ⟨A, ρ1, d, ρ', E, r1, hm, kk⟩ => ?_⟩
  unfold mPut at hm
  simp only at hm
  split at hm
  · rename_i o e2
    split at hm
    · rename_i kd ρ2 e3
      split at hm
      · rename_i o' e4
        cases hm
        rw [ha]
        obtain ⟨h1, h2⟩ := E.own i o e2
        refine wpAny_bind (wpAny_holding (thn ((pe_var (pos := xp) hN hv hd hcd).run pins s1 σ H (fun w H2 => w = .ref (A i) ∧ H2 = H) I1 ⟨_, h1, rfl, rfl⟩) ?_))
        rintro u s2 ⟨y, H2, I2, rx, rfl, rfl⟩
        cases rx
        refine wpAny_bind (wpAny_holding (thn (hk.run pins s2 σ H2 (fun w H3 => Post F [] A σ H2 ρ1 effk H3 ρ2 ∧ Val F [] A ρ2 H3 depk w kd) I2 ⟨[], A, ρ1, kd, ρ2, E, e3, fun v H1 P r => ⟨P, r⟩⟩) ?_))
        rintro iv s3 ⟨z, H3, I3, ry, P2, r2⟩
        have e5 : ρ2[i]? = some (some (true, o)) := by rw [P2.lv.keep i hne]; exact e2
        have r3 : RelD F.K (Av F [] A ρ2) H3 v d := (Val.later (dep := []) (.inl r1) P2.gro P2.lv (by simp)).plain
        refine wpAny_bind (wpAny_standAt (wpAny_bind (wpAny_holding ?_)))
        rcases put_ok P2.env e5 e4 (r2.rr P2.env) r3 with ⟨xs, z, j, g1, g2, g3, G, R⟩ | ⟨kvs, z, g1, g2, g3, G, R⟩
        · exact thn (set_list pins s3 σ H3 (.ref (A i)) _ v (.ref (A i)) iv r (fun H4 => Q σ H4) I3 rfl ry rv ⟨A i, xs, z, j, rfl, g2, g1, g3, kk _ (P2.write e5 G R)⟩) fun _ s4 ⟨H4, I4, q⟩ => wpAny_release ⟨σ, H4, I4, q⟩
        · subst g2
          exact d_setItem hu I3 (.inl ⟨kvs, z, g1, rfl, g3, rfl⟩) ry rv fun s4 I4 => wpAny_release ⟨σ, _, I4, kk _ (P2.write e5 G R)⟩
      · cases hm
    · cases hm
  · cases hm
/-- name[k1], name[k2] = a pair -/
def mPut2 (i : Nat) (mk1 mk2 m : M D) : MS := fun ρ => match m ρ with
  | some (.tuple [d1, d2], ρ1) => (match mPut i mk1 (fun r => some (d1, r)) ρ1 with
    | some (.nx ρ2) => mPut i mk2 (fun r => some (d2, r)) ρ2
    | _ => none)
  | _ => none
theorem mPut_nx {i : Nat} {mk mv : M D} {ρ : Rho} {out : Out} (h : mPut i mk mv ρ = some out) : ∃ ρ', out = .nx ρ' := by
  unfold mPut at h
  repeat' split at h
  all_goals first | (cases h; exact ⟨_, rfl⟩) | cases h
theorem s_put2 {i : Nat} {x : Str} {k1 k2 value : Expr} {m mk1 mk2 : M D} {dep1 eff1 dep2 eff2 eff : List Nat} {kt : Nat} {pt pos1 pos2 xp1 xp2 : Pos} (hu : X.A.units + 1 < cLine) (hc : X.calm = true) (hN : X.N[i]? = some x) (hv : Vis X.env.scope x) (hk1 : PE X k1 (rd F mk1 dep1 eff1)) (hk2 : PE X k2 (rd F mk2 dep2 eff2)) (hval : PE X value (rd F m [] eff)) (hn1 : i ∉ eff1) (hn2 : i ∉ eff2)
    (hd : (x == ("__debug__" : Str)) = false) (hcd : (x == ("__classdict__" : Str)) = false) (hK : X.K = F.K)
    (h1 : PG X (.Subscript (.Name x xp1) k1 pos1) (PutG F i mk1 eff1)) (h2 : PG X (.Subscript (.Name x xp2) k2 pos2) (PutG F i mk2 eff2))
    (hs : swapsWithSole [.Tuple [.Subscript (.Name x xp1) k1 pos1, .Subscript (.Name x xp2) k2 pos2] kt pt] value pos.line X.env = pure false) (hw : swappedStores [.Tuple [.Subscript (.Name x xp1) k1 pos1, .Subscript (.Name x xp2) k2 pos2] kt pt] value X.env = pure none)
    (ha : (assignEach [.Tuple [.Subscript (.Name x xp1) k1 pos1, .Subscript (.Name x xp2) k2 pos2] kt pt] X.env).map (·.2) = [assign (.Tuple [.Subscript (.Name x xp1) k1 pos1, .Subscript (.Name x xp2) k2 pos2] kt pt) X.env])
    (hb : (assignEach [.Subscript (.Name x xp1) k1 pos1, .Subscript (.Name x xp2) k2 pos2] X.env).map (·.2) = assign (.Subscript (.Name x xp1) k1 pos1) X.env :: (assignEach [.Subscript (.Name x xp2) k2 pos2] X.env).map (·.2))
    (hb2 : (assignEach [.Subscript (.Name x xp2) k2 pos2] X.env).map (·.2) = assign (.Subscript (.Name x xp2) k2 pos2) X.env :: (assignEach [] X.env).map (·.2))
    (hl : (assignEach [.Subscript (.Name x xp1) k1 pos1, .Subscript (.Name x xp2) k2 pos2] X.env).length = 2) (hst : (assignEach [.Subscript (.Name x xp1) k1 pos1, .Subscript (.Name x xp2) k2 pos2] X.env).findIdx? (·.1) = none) :
    PS X (.Assign [.Tuple [.Subscript (.Name x xp1) k1 pos1, .Subscript (.Name x xp2) k2 pos2] kt pt] value pos) (rdS F (mPut2 i mk1 mk2 m)) := by
  refine PS.mono (ps_asg hval (pg_tup hc (pgs_cons h1 (pgs_cons h2 pgs_nil hb2) hb) hl hst) hs hw ha) fun Dn σ H ⟨A, ρ, out, E, hm, kk⟩ => ?_
  unfold mPut2 at hm
  split at hm
  · rename_i d1 d2 ρ1 e1
    split at hm
    · rename_i ρ2 e2
      obtain ⟨ρ3, rfl⟩ := mPut_nx hm
      refine ⟨[], A, ρ, _, ρ1, E, e1, fun v H1 P r => ?_⟩
      obtain ⟨a, xs, rfl, hq, rr⟩ := RR.tuple (r.rr P.env)
      cases rr with
      | cons r1 rr => cases rr with
        | cons r2 rr =>
          cases rr
          refine ⟨a, _, rfl, by rw [hK]; exact hq, rfl, _, _, rfl, A, ρ1, d1, ρ2, P.env, r1, e2, fun H2 P2 => ⟨_, _, rfl, A, ρ2, d2, ρ3, P2.env, (Val.later (dep := []) (.inl r2) P2.gro P2.lv (by simp)).plain, hm, fun H3 P3 => ⟨rfl, kk A σ H3 P3.env⟩⟩⟩
    · cases hm
  · cases hm
theorem sput2 (i : Nat) {x : Str} {k1 k2 value : Expr} {m mk1 mk2 : M D} {dep1 eff1 dep2 eff2 eff : List Nat} {kt : Nat} {pt pos1 pos2 xp1 xp2 : Pos} (hu : X.A.units + 1 < cLine) (hk1 : PE X k1 (rd F mk1 dep1 eff1)) (hk2 : PE X k2 (rd F mk2 dep2 eff2)) (hval : PE X value (rd F m [] eff)) (hc : X.calm = true := by rfl) (hN : X.N[i]? = some x := by rfl) (hv : Vis X.env.scope x := by first | exact Or.inl rfl | exact Or.inr (Or.inl rfl) | exact Or.inr (Or.inr rfl)) (hn1 : (!decide (i ∈ eff1)) = true := by rfl) (hn2 : (!decide (i ∈ eff2)) = true := by rfl)
    (hd : (x == ("__debug__" : Str)) = false := by decide) (hcd : (x == ("__classdict__" : Str)) = false := by decide) (hK : X.K = F.K := by rfl)
    (ha1 : ∀ v, assign (.Subscript (.Name x xp1) k1 pos1) X.env v = (do
      let ov ← holding [v] (eval (.Name x xp1) X.env)
      let iv ← holding [v, ov] (eval k1 X.env)
      standAt pos1
      holding [v, ov, iv] (setItem ov iv v)
      release [v, ov, iv] []) := by intro _; rfl)
    (ha2 : ∀ v, assign (.Subscript (.Name x xp2) k2 pos2) X.env v = (do
      let ov ← holding [v] (eval (.Name x xp2) X.env)
      let iv ← holding [v, ov] (eval k2 X.env)
      standAt pos2
      holding [v, ov, iv] (setItem ov iv v)
      release [v, ov, iv] []) := by intro _; rfl)
    (hs : swapsWithSole [.Tuple [.Subscript (.Name x xp1) k1 pos1, .Subscript (.Name x xp2) k2 pos2] kt pt] value pos.line X.env = pure false := by rfl) (hw : swappedStores [.Tuple [.Subscript (.Name x xp1) k1 pos1, .Subscript (.Name x xp2) k2 pos2] kt pt] value X.env = pure none := by rfl)
    (ha : (assignEach [.Tuple [.Subscript (.Name x xp1) k1 pos1, .Subscript (.Name x xp2) k2 pos2] kt pt] X.env).map (·.2) = [assign (.Tuple [.Subscript (.Name x xp1) k1 pos1, .Subscript (.Name x xp2) k2 pos2] kt pt) X.env] := by rfl)
    (hb : (assignEach [.Subscript (.Name x xp1) k1 pos1, .Subscript (.Name x xp2) k2 pos2] X.env).map (·.2) = assign (.Subscript (.Name x xp1) k1 pos1) X.env :: (assignEach [.Subscript (.Name x xp2) k2 pos2] X.env).map (·.2) := by rfl)
    (hb2 : (assignEach [.Subscript (.Name x xp2) k2 pos2] X.env).map (·.2) = assign (.Subscript (.Name x xp2) k2 pos2) X.env :: (assignEach [] X.env).map (·.2) := by rfl)
    (hl : (assignEach [.Subscript (.Name x xp1) k1 pos1, .Subscript (.Name x xp2) k2 pos2] X.env).length = 2 := by rfl) (hst : (assignEach [.Subscript (.Name x xp1) k1 pos1, .Subscript (.Name x xp2) k2 pos2] X.env).findIdx? (·.1) = none := by rfl) :
    PS X (.Assign [.Tuple [.Subscript (.Name x xp1) k1 pos1, .Subscript (.Name x xp2) k2 pos2] kt pt] value pos) (rdS F (mPut2 i mk1 mk2 m)) :=
  s_put2 hu hc hN hv hk1 hk2 hval (nio hn1) (nio hn2) hd hcd hK (pg_put hu hN hv hk1 (nio hn1) hd hcd ha1) (pg_put hu hN hv hk2 (nio hn2) hd hcd ha2) hs hw ha hb hb2 hl hst
end
end PD

set_option Elab.async false
set_option linter.all false
set_option maxRecDepth 100000
set_option maxHeartbeats 2000000
/-! PDy: dicts whose keys are tuples of ints: in, not in, d[k], d[k] = v, len, sorted. -/
namespace PD
open PySem PySem.Spec PyProof.Rows L2 GxR GenX OwnK
/-- the data of such a dict -/
def tdD (es : List (D × D)) : D := .dict ((.list [], .none) :: es)
def keyT : D → Option (List Int)
  | .tuple ds => allInts ds
  | _ => none
def dgetT : List (D × D) → List Int → Option D
  | [], _ => none
  | (kd, d) :: r, k => if keyT kd = some k then some d else dgetT r k
/-- the entries (of an empty dict, too) -/
def tdE : D → Option (List (D × D))
  | .dict [] => some []
  | .dict ((.list [], .none) :: es) => some es
  | _ => none
section
variable {K : PySem.W.Frag} {S : Addr → Prop} {H : Hp}
/-- what stands there -/
def HT (H : Hp) (a : Addr) (xs : List (List Int × Addr × Value)) : Prop := H a = some (.ext (TDict a xs)) ∨ (xs = [] ∧ Rd H a (.dK []))
theorem keyT_ints (ks : List Int) : keyT (.tuple (ks.map .int)) = some ks := by
  show allInts (ks.map .int) = some ks
  induction ks with
  | nil => rfl
  | cons k r ih =>
    show (allInts (r.map .int)).map (k :: ·) = _
    rw [ih]; rfl
theorem keyT_some {kd : D} {ks : List Int} (h : keyT kd = some ks) : kd = .tuple (ks.map .int) := by
  cases kd with
  | tuple ds =>
    have h : allInts ds = some ks := h
    congr 1
    induction ds generalizing ks with
    | nil => cases h; rfl
    | cons d r ih =>
      cases d with
      | int i =>
        have h : (allInts r).map (i :: ·) = some ks := h
        cases e : allInts r with
        | none => rw [e] at h; cases h
        | some l => rw [e] at h; cases h; rw [List.map_cons, ih e e]
      | _ => cases h
  | _ => cases h
theorem RR.keyAt {v : V} {ks : List Int} (r : RR K S H v (.tuple (ks.map .int))) : ∃ b, v = .ref b ∧ KeyAt K S H b ks := by
  have e : ∀ {xs : List V}, RelDs K S H xs (ks.map .int) → xs = ks.map V.int := fun q => allInts_rel (keyT_ints ks) q
  rcases r with r | ⟨a, e, r⟩
  · cases r with
    | tup n s r => rw [e r] at s; exact ⟨_, rfl, .inl ⟨n, s⟩⟩
    | tupK s r => rw [e r] at s; exact ⟨_, rfl, .inr s⟩
  · exact r.elim
theorem RR.td {v : V} {d : D} {es : List (D × D)} (r : RR K S H v d) (h : tdE d = some es) : ∃ a xs, v = .ref a ∧ HT H a xs ∧ RelTs K S H xs es := by
  unfold tdE at h
  split at h
  · cases h
    rcases r.dict2 with ⟨a, kvs, e, h1, h2⟩ | ⟨a, xs, e, h1, h2⟩
    · cases h2
      exact ⟨a, [], e, .inr ⟨rfl, h1⟩, .nil⟩
    · cases h2
  · cases h
    rcases r.dict2 with ⟨a, kvs, e, h1, h2⟩ | ⟨a, xs, e, h1, h2⟩
    · exact absurd h2 (by
        intro z
        have : ∀ {k : D} {d : D} {r : List (D × D)} {kvs}, RelKs K S H kvs ((k, d) :: r) → ∃ q, k = kD q := fun h => by cases h; exact ⟨_, rfl⟩
        obtain ⟨q, hq⟩ := this z
        cases q <;> cases hq)
    · cases h2 with
      | mk h2 => exact ⟨a, xs, e, .inl h1, h2⟩
  · cases h
theorem RelTs.get : ∀ {xs : List (List Int × Addr × Value)} {ds : List (D × D)} (k : List Int), RelTs K S H xs ds → (atKey xs k = none ∧ dgetT ds k = none) ∨ ∃ b u v d, atKey xs k = some (b, u) ∧ dgetT ds k = some d ∧ RelV v u ∧ RelD K S H v d
  | _, _, k, .nil => .inl ⟨rfl, rfl⟩
  | _, _, k, .cons (ks := k0) (b := b) (u := u) (v := v) (d := d) s q r t => by
    by_cases e : k0 = k
    · subst e
      exact .inr ⟨b, u, v, d, by simp [atKey], by unfold dgetT; rw [keyT_ints, if_pos rfl], q, r⟩
    · have e1 : ∀ xs, atKey ((k0, b, u) :: xs) k = atKey xs k := fun xs => by simp [atKey, List.find?_cons, e]
      have e2 : ∀ ds, dgetT ((.tuple (k0.map .int), d) :: ds) k = dgetT ds k := fun ds => by
        conv => lhs; unfold dgetT
        rw [keyT_ints, if_neg (fun z => e (Option.some.inj z))]
      rw [e1, e2]
      exact RelTs.get k t
theorem RelTs.keys : ∀ {xs : List (List Int × Addr × Value)} {ds : List (D × D)}, RelTs K S H xs ds → ∀ x ∈ xs, KeyAt K S H x.2.1 x.1
  | _, _, .nil, x, hx => by cases hx
  | _, _, .cons s _ _ t, x, hx => by
    rcases List.mem_cons.mp hx with e | hx
    · subst e; exact s
    · exact RelTs.keys t x hx
theorem RelTs.length : ∀ {xs : List (List Int × Addr × Value)} {ds : List (D × D)}, RelTs K S H xs ds → xs.length = ds.length
  | _, _, .nil => rfl
  | _, _, .cons _ _ _ t => congrArg (· + 1) t.length
end
section
variable {X : Cx} {F : Frm} {pos p : Pos} {S : Addr → Prop} {H : Hp} {pins : List (Addr × Obj)} {σ : L2.St} {s : Shared}
theorem ints_items {P : Program} {w : World} : ∀ {ks : List Int} {us : List Value}, Vals (ks.map V.int) us → PySem.ItemsAre (PySem.intKind P w) ks us
  | [], _, r => by rw [List.map_nil] at r; cases r; exact .nil
  | k :: ks, _, r => by
    rw [List.map_cons] at r
    cases r with
    | cons h t =>
      obtain ⟨t', rfl⟩ := (show ∃ t, _ = Value.int k t from h)
      exact .cons (by simp [PySem.intKind, Value.isInt]) (ints_items t)
theorem key_ofT (I : Inv X pins σ H s) {b : Addr} {ks : List Int} (h : KeyAt X.K S H b ks) : (PySem.tupleKind (PySem.intKind X.prog X.w)).is s.heap ks b := by
  have h : SqT X.K H b (ks.map V.int) := by
    rcases h with ⟨_, h⟩ | h
    · exact .inl h.rd
    · exact .inr h.sq
  obtain ⟨its, r, ⟨o, h1, h2, n, h3⟩, _⟩ := I.tuple h
  exact ⟨o, its.toArray, n, h1, h2, h3, by simpa using ints_items r⟩
theorem td_at {a : Addr} {xs : List (List Int × Addr × Value)} {es : List (D × D)} (I : Inv X pins σ H s) (h : HT H a xs) (r : RelTs X.K S H xs es) :
    (a == sysModules) = false ∧ xs.length ≤ sizeLine ∧ s.heap.DictOfH (PySem.tupleKind (PySem.intKind X.prog X.w)) a xs := by
  have hk : RelTs X.K S H xs es → ∀ x ∈ xs, (PySem.tupleKind (PySem.intKind X.prog X.w)).is s.heap x.1 x.2.1 := fun r x hx => key_ofT I (r.keys x hx)
  rcases h with h | ⟨rfl, h⟩
  · obtain ⟨⟨hd, hl, o, es', ep, h1, h2, h3, h4, h5⟩, _⟩ := (show ObjOk X.prog X.w H s.heap a (.ext (TDict a xs)) from I.hok a _ h)
    exact ⟨hd, hl, o, es', ep, h1, h2, h3, h4, hk r, h5⟩
  · obtain ⟨z, hd, vs, rel, o, es', ep, h1, h2, h3, _, h4, _⟩ := dk_rd I.hok h
    have e : vs = [] := by cases rel; rfl
    subst e
    refine ⟨hd, Nat.zero_le _, o, es', ep, h1, h2, h3, ?_, fun x hx => (nomatch hx), List.nodup_nil⟩
    generalize es'.toList = l at h4
    cases h4; rfl
def gInT (kd o : D) : Option D := match keyT kd, tdE o with
  | some ks, some es => some (.bool (dgetT es ks).isSome)
  | _, _ => none
def gNotInT (kd o : D) : Option D := match keyT kd, tdE o with
  | some ks, some es => some (.bool (!(dgetT es ks).isSome))
  | _, _ => none
def gIxT (o kd : D) : Option D := match keyT kd, tdE o with
  | some ks, some es => dgetT es ks
  | _, _ => none
theorem RelTs.isSome {K : PySem.W.Frag} {xs : List (List Int × Addr × Value)} {es : List (D × D)} (r : RelTs K S H xs es) (ks : List Int) : (atKey xs ks).isSome = (dgetT es ks).isSome := by
  rcases r.get ks with ⟨g1, g2⟩ | ⟨b, u, v, d, g1, g2, _⟩ <;> rw [g1, g2] <;> rfl
theorem o_inT {K : PySem.W.Frag} (hu : X.A.units + 1 < cLine) (hK : X.K = K := by rfl) : OpR X (compareOp .In) (rop K gInT) := by
  subst hK
  intro pins s σ H x y v u Q I rx ry ⟨S, d1, d2, d, r1, r2, e, occ, k⟩
  unfold gInT at e
  split at e
  · rename_i ks es e1 e2
    cases e
    have e3 := keyT_some e1
    subst e3
    obtain ⟨b, rfl, hb⟩ := r1.keyAt
    obtain ⟨a, xs, rfl, hT, rt⟩ := r2.td e2
    cases rx
    cases ry
    obtain ⟨hd, hl, dd⟩ := td_at I hT rt
    refine PySem.wpAny_in_heap (PySem.tupleKind_room_in1 hu) (key_ofT I hb) hd dd ?_
    rw [rt.isSome ks]
    exact ⟨.bl _, H, I.tok _, rfl, k (.bl _) H (Ext.refl H) (.bl _)⟩
  · cases e
theorem o_notInT {K : PySem.W.Frag} (hu : X.A.units + 1 < cLine) (hK : X.K = K := by rfl) : OpR X (compareOp .NotIn) (rop K gNotInT) := by
  subst hK
  intro pins s σ H x y v u Q I rx ry ⟨S, d1, d2, d, r1, r2, e, occ, k⟩
  unfold gNotInT at e
  split at e
  · rename_i ks es e1 e2
    cases e
    have e3 := keyT_some e1
    subst e3
    obtain ⟨b, rfl, hb⟩ := r1.keyAt
    obtain ⟨a, xs, rfl, hT, rt⟩ := r2.td e2
    cases rx
    cases ry
    obtain ⟨hd, hl, dd⟩ := td_at I hT rt
    refine wpAny_notIn_heap (PySem.tupleKind_room_in1 hu) (key_ofT I hb) hd dd ?_
    rw [rt.isSome ks]
    exact ⟨.bl _, H, I.tok _, rfl, k (.bl _) H (Ext.refl H) (.bl _)⟩
  · cases e
theorem o_ixT {K : PySem.W.Frag} (hu : X.A.units + 1 < cLine) (hK : X.K = K := by rfl) : IxR X (rop K gIxT) := by
  subst hK
  intro value slice pins s σ H x y v u Q I rx ry ⟨S, d1, d2, d, r1, r2, e, occ, k⟩ hs
  unfold gIxT at e
  split at e
  · rename_i ks es e1 e2
    have e3 := keyT_some e1
    subst e3
    obtain ⟨b, rfl, hb⟩ := r2.keyAt
    obtain ⟨a, xs, rfl, hT, rt⟩ := r1.td e2
    cases rx
    cases ry
    obtain ⟨hd, hl, dd⟩ := td_at I hT rt
    rcases rt.get ks with ⟨g1, g2⟩ | ⟨b2, u2, v2, d2, g1, g2, rv, rd⟩
    · rw [e] at g2; cases g2
    · rw [e] at g2
      cases g2
      have hTy := dd.typeIs
      unfold subscriptTail
      refine wpAny_bind ?_
      rw [getitemInPython_of_ne hTy.not_modules]
      refine wpAny_bind (wpAny_specialOf hTy PySem.F.slot_dict_getitem.lookup ?_)
      have fin : wpAny (model X.prog X.w) X.A (subscripted slice false (.ref a) (.ref b)) (fun r s₃ => wpAny (model X.prog X.w) X.A (letTemporaryGo value (.ref a) r >>= fun _ => pure r) (EP X pins σ Q) X.xe s₃) X.xe s := by
        rw [hs]
        exact wpAny_operating (PySem.wpAny_getItem_heap (PySem.tupleKind_room_in1 hu) (key_ofT I hb) dd g1 (wpAny_bind (wpAny_letTemporaryGo (wpAny_pure ⟨v2, H, I.tok _, rv, k v2 H (Ext.refl H) rd⟩))))
      first
        | exact wpAny_pure (wpAny_bind fin)
        | exact wpAny_bind (wpAny_pure (wpAny_bind fin))
        | exact wpAny_bind fin
  · cases e
/-! ### d[k] = v -/
def dputT (es : List (D × D)) (ks : List Int) (d : D) : List (D × D) := if (dgetT es ks).isSome then es.map (fun e => if keyT e.1 = some ks then (e.1, d) else e) else es ++ [(.tuple (ks.map .int), d)]
def gPutT (o kd d : D) : Option D := match keyT kd, tdE o with
  | some ks, some es => if es.length < sizeLine then some (tdD (dputT es ks d)) else none
  | _, _ => none
theorem RelTs.append {K : PySem.W.Frag} : ∀ {xs ys : List (List Int × Addr × Value)} {ds es : List (D × D)}, RelTs K S H xs ds → RelTs K S H ys es → RelTs K S H (xs ++ ys) (ds ++ es)
  | _, _, _, _, .nil, s => s
  | _, _, _, _, .cons q w r t, s => .cons q w r (RelTs.append t s)
theorem RelTs.mapPut {K : PySem.W.Frag} {k : List Int} {v : V} {u : Value} {d : D} (rv : RelV v u) (r : RelD K S H v d) : ∀ {xs : List (List Int × Addr × Value)} {ds : List (D × D)}, RelTs K S H xs ds →
    RelTs K S H (xs.map (putAt k u)) (ds.map fun e => if keyT e.1 = some k then (e.1, d) else e)
  | _, _, .nil => .nil
  | _, _, .cons (ks := k0) q w0 r0 t => by
    rw [List.map_cons, List.map_cons, keyT_ints]
    unfold putAt
    by_cases h : k0 = k
    · rw [if_pos h, if_pos (by rw [h])]
      exact .cons q rv r (RelTs.mapPut rv r t)
    · rw [if_neg h, if_neg (fun z => h (Option.some.inj z))]
      exact .cons q w0 r0 (RelTs.mapPut rv r t)
theorem RelTs.put {K : PySem.W.Frag} {k : List Int} {b : Addr} {v : V} {u : Value} {d : D} (hb : KeyAt K S H b k) (rv : RelV v u) (r : RelD K S H v d) {xs : List (List Int × Addr × Value)} {ds : List (D × D)} (q : RelTs K S H xs ds) : RelTs K S H (storedH xs k b u) (dputT ds k d) := by
  unfold storedH dputT
  rw [q.isSome k]
  cases (dgetT ds k).isSome with
  | true => exact RelTs.mapPut rv r q
  | false => exact RelTs.append q (.cons hb rv r .nil)
/-- such an object, and what it leans on -/
theorem td_ok {P : Program} {w : World} {H' : Hp} {h' : Heap} {a : Addr} {xs : List (List Int × Addr × Value)} (hd : (a == sysModules) = false) (hl : xs.length ≤ sizeLine) (dd : h'.DictOfH (PySem.tupleKind (PySem.intKind P w)) a xs) : ObjOk P w H' h' a (.ext (TDict a xs)) := by
  obtain ⟨o, es, ep, h1, h2, h3, h4, _, h5⟩ := dd
  exact ⟨⟨hd, hl, o, es, ep, h1, h2, h3, h4, h5⟩, ⟨o, h1⟩, fun g1 g2 ⟨hd, hl, o, es, ep, h1, r⟩ k => ⟨hd, hl, o, es, ep, k _ h1, r⟩⟩
theorem storedH_len (xs : List (List Int × Addr × Value)) (k : List Int) (b : Addr) (u : Value) : (storedH xs k b u).length ≤ xs.length + 1 := by
  unfold storedH
  split <;> simp
/-- d[k] = v on a tracked dict -/
theorem td_setItem {a b : Addr} {xs : List (List Int × Addr × Value)} {es : List (D × D)} {ks : List Int} {u : Value} {Q : Unit → Shared → Prop} {A : Around} {E : Value → Shared → Prop} (hu : A.units + 1 < cLine) (I : Inv X pins σ H s) (h : H a = some (.ext (TDict a xs)) ∨ (xs = [] ∧ H a = some (.dK []))) (r : RelTs X.K S H xs es) (hb : KeyAt X.K S H b ks) (hl : xs.length < sizeLine)
    (q : ∀ s', Inv X pins σ (upd H a (.ext (TDict a (storedH xs ks b u)))) s' → Q () s') : wpAny (model X.prog X.w) A (setItem (.ref a) (.ref b) u) Q E s := by
  obtain ⟨hd, hl0, dd⟩ := td_at I (h.imp id fun ⟨e, h⟩ => ⟨e, .inl h⟩) r
  have mu : Mut (H a) := by
    rcases h with h | ⟨_, h⟩ <;> (rw [h]; exact True.intro)
  refine PySem.wpAny_setItem_heap (hsz := hl0) (PySem.tupleKind_room_in1 hu) (key_ofT I hb) dd fun h' dd' hs => q _ ?_
  have he : ∃ q, h'.get? a = some q := let ⟨q, _, _, hq, _⟩ := dd'; ⟨q, hq⟩
  exact d_write I mu hs he (td_ok hd (by have := storedH_len xs ks b u; omega) dd')
theorem putT_ok {A : Nat → Addr} {σ : L2.St} {B : List Addr} {H : Hp} {ρ : Rho} {i : Nat} {o kd d o' : D} {kv v : V} (E : Ev F B A σ H ρ) (e : ρ[i]? = some (some (true, o))) (hg : gPutT o kd d = some o') (rk : RR F.K (Av F B A ρ) H kv kd) (rv : RelD F.K (Av F B A ρ) H v d) :
    ∃ xs es ks b, (H (A i) = some (.ext (TDict (A i) xs)) ∨ (xs = [] ∧ H (A i) = some (.dK []))) ∧ RelTs F.K (Av F B A ρ) H xs es ∧ kv = .ref b ∧ KeyAt F.K (Av F B A ρ) H b ks ∧ xs.length < sizeLine ∧
      ∀ u, RelV v u → Gro (fun b => b = A i) H (upd H (A i) (.ext (TDict (A i) (storedH xs ks b u)))) ∧ RelO F.K (Av F B A ρ) (upd H (A i) (.ext (TDict (A i) (storedH xs ks b u)))) (A i) o' := by
  have hC : ∀ a, a = A i → Av F B A ρ a := fun a h => .inr (.inr ⟨i, _, e, h⟩)
  obtain ⟨_, r⟩ := E.own i _ e
  unfold gPutT at hg
  split at hg
  · rename_i ks es e1 e2
    split at hg
    · rename_i hl
      cases hg
      have e3 := keyT_some e1
      subst e3
      obtain ⟨b, rfl, hb⟩ := rk.keyAt
      have hx : ∃ xs, (H (A i) = some (.ext (TDict (A i) xs)) ∨ (xs = [] ∧ H (A i) = some (.dK []))) ∧ RelTs F.K (Av F B A ρ) H xs es := by
        unfold tdE at e2
        split at e2
        · cases e2
          rcases r with ⟨kvs, h1, h2⟩ | ⟨xs, h1, h2⟩
          · cases h2
            exact ⟨[], .inr ⟨rfl, h1⟩, .nil⟩
          · cases h2
        · cases e2
          rcases r with ⟨kvs, h1, h2⟩ | ⟨xs, h1, h2⟩
          · have : ∀ {k : D} {d : D} {r : List (D × D)} {kvs}, RelKs F.K (Av F B A ρ) H kvs ((k, d) :: r) → ∃ q, k = kD q := fun h => by cases h; exact ⟨_, rfl⟩
            obtain ⟨q, hq⟩ := this h2
            cases q <;> cases hq
          · cases h2 with
            | mk h2 => exact ⟨xs, .inl h1, h2⟩
        · cases e2
      obtain ⟨xs, h1, h2⟩ := hx
      refine ⟨xs, es, ks, b, h1, h2, rfl, hb, by rw [h2.length]; exact hl, fun u ru => ?_⟩
      have G : Gro (fun b => b = A i) H (upd H (A i) (.ext (TDict (A i) (storedH xs ks b u)))) := by
        rcases h1 with h1 | ⟨_, h1⟩
        · exact Gro.upd h1 fun ps z => nomatch z
        · exact Gro.upd h1 fun ps z => nomatch z
      exact ⟨G, .inr ⟨_, upd_same, (RelMk.mk (RelTs.put hb ru rv h2)).mono G (fun _ z => z) hC⟩⟩
    · cases hg
  · cases hg
/-- name[k] = value, k a tuple of ints -/
def mPutT (i : Nat) (mk mv : M D) : MS := fun ρ => match mv ρ with
  | some (d, ρ1) => (match ρ1[i]? with
    | some (some (true, o)) => (match mk ρ1 with
      | some (kd, ρ2) => (match gPutT o kd d with
        | some o' => some (.nx (ρ2.set i (some (true, o'))))
        | none => none)
      | none => none)
    | _ => none)
  | none => none
theorem s_putT {i : Nat} {x : Str} {k value : Expr} {mk mv : M D} {depk effk effv : List Nat} {xp pos' : Pos} (hu : X.A.units + 1 < cLine) (hN : X.N[i]? = some x) (hv : Vis X.env.scope x) (hk : PE X k (rd F mk depk effk)) (hval : PE X value (rd F mv [] effv)) (hne : i ∉ effk := by decide)
    (hs : swapsWith value (some (.Subscript (.Name x xp) k pos')) pos.line X.env = pure false := by rfl) (hd : (x == ("__debug__" : Str)) = false := by decide) (hcd : (x == ("__classdict__" : Str)) = false := by decide) (hK : X.K = F.K := by rfl) :
    PS X (.Assign [.Subscript (.Name x xp) k pos'] value pos) (rdS F (mPutT i mk mv)) := by
  refine ⟨fun pins s σ H Dn I ⟨A, ρ, out, E, hm, kk⟩ => ?_⟩
  unfold mPutT at hm
  split at hm
  · rename_i d ρ1 e1
    split at hm
    · rename_i o e2
      split at hm
      · rename_i kd ρ2 e3
        split at hm
        · rename_i o' e4
          cases hm
          refine wpAny_Assign_Subscript (thn (hval.run pins s σ H (fun v H1 => Post F [] A σ H ρ effv H1 ρ1 ∧ Val F [] A ρ1 H1 [] v d) I ⟨[], A, ρ, d, ρ1, E, e1, fun v H1 P r => ⟨P, r⟩⟩) fun r s1 ⟨v, H1, I1, rv, P1, r1⟩ => ?_) hs
          obtain ⟨h1, h2⟩ := P1.env.own i o e2
          refine thn ((pe_var (pos := xp) hN hv hd hcd).run pins s1 σ H1 (fun w H2 => w = .ref (A i) ∧ H2 = H1) I1 ⟨_, h1, rfl, rfl⟩) fun u s2 ⟨x, H2, I2, rx, q1, q2⟩ => ?_
          subst q1 q2
          cases rx
          refine thn (hk.run pins s2 σ H2 (fun w H3 => Post F [] A σ H2 ρ1 effk H3 ρ2 ∧ Val F [] A ρ2 H3 depk w kd) I2 ⟨[], A, ρ1, kd, ρ2, P1.env, e3, fun v H1 P r => ⟨P, r⟩⟩) fun iv s3 ⟨y, H3, I3, ry, P2, r2⟩ => ?_
          have e5 : ρ2[i]? = some (some (true, o)) := by rw [P2.lv.keep i hne]; exact e2
          have rv' := (r1.later P2.gro P2.lv (by simp)).plain
          obtain ⟨xs, es, ks, b, g1, g2, rfl, g3, g4, g5⟩ := putT_ok P2.env e5 e4 (r2.rr P2.env) rv'
          cases ry
          obtain ⟨G, R⟩ := g5 r rv
          exact td_setItem hu I3 g1 (hK ▸ g2) (hK ▸ g3) g4 fun s4 I4 => ⟨σ, _, I4, kk A σ _ (P2.write e5 G R).env⟩
        · cases hm
      · cases hm
    · cases hm
  · cases hm
end
end PD

set_option Elab.async false
set_option linter.all false
set_option maxRecDepth 100000
set_option maxHeartbeats 2000000
/-! PDz: sorted of a dict whose keys are tuples of ints (of any sign), len of it. -/
namespace TSh
open PySem PyProof.Rows
/-- tuples by their ints moved up -/
def up (ns : List Int) : List Int := ns.map (· + 1000000)
def rk (ns : List Int) : Int := TS.code 2000001 (up ns)
def In (ns : List Int) : Prop := ∀ m ∈ ns, -1000000 ≤ m ∧ m ≤ 1000000
theorem In.bd {ns : List Int} (h : In ns) : TS.Bd 2000001 (up ns) := fun m hm => by
  obtain ⟨x, hx, rfl⟩ := List.mem_map.mp hm
  have := h x hx
  omega
theorem In.tail {n : Int} {ns : List Int} (h : In (n :: ns)) : In ns := fun m hm => h m (List.mem_cons_of_mem _ hm)
theorem rk_inj : ∀ {ns ms : List Int}, ns.length = ms.length → In ns → In ms → rk ns = rk ms → ns = ms
  | [], [], _, _, _, _ => rfl
  | [], _ :: _, h, _, _, _ => by simp at h
  | _ :: _, [], h, _, _, _ => by simp at h
  | n :: ns, m :: ms, hl, h1, h2, e => by
    have hl' : ns.length = ms.length := by simpa using hl
    have hu : (up ns).length = (up ms).length := by simp [up, hl']
    rcases Int.lt_trichotomy n m with y | y | y
    · have := TS.code_lt (B := 2000001) (d := n + 1000000) (e := m + 1000000) hu h1.tail.bd h2.tail.bd (by omega)
      exact absurd e (Int.ne_of_lt this)
    · subst y
      congr 1
      refine rk_inj hl' h1.tail h2.tail ?_
      have e : (n + 1000000) * 2000001 ^ (up ns).length + rk ns = (n + 1000000) * 2000001 ^ (up ms).length + rk ms := e
      rw [hu] at e
      omega
    · have := TS.code_lt (B := 2000001) (d := m + 1000000) (e := n + 1000000) hu.symm h2.tail.bd h1.tail.bd (by omega)
      exact absurd e.symm (Int.ne_of_lt this)
section
variable {prog : Program} {w : World} {A : Around} {E : Value → Shared → Prop} {s : Shared}
theorem lex_up {b : Bool} {R : Bool → Shared → Prop} : ∀ {us zs : List Value} {ns ms : List Int} (i : Nat), IntsAre us ns → IntsAre zs ms → ns.length = ms.length → In ns → In ms → R (decide (rk ns < rk ms)) s → PySem.W.KatLex prog w A b false R (us.zip zs) i s := by
  intro us zs ns ms i hx
  induction hx generalizing zs ms i with
  | nil =>
    intro hz hl h1 h2 h
    cases hz with
    | nil =>
      rw [show decide (rk [] < rk []) = false from decide_eq_false (Int.lt_irrefl _)] at h
      exact PySem.W.kat_nil h
    | cons q u hz => simp at hl
  | @cons p t us ns hx ih =>
    intro hz hl h1 h2 h
    cases hz with
    | nil => simp at hl
    | @cons q u zs ms hz =>
      have hl' : ns.length = ms.length := by simpa using hl
      have hu : (up ns).length = (up ms).length := by simp [up, hl']
      show PySem.W.KatLex prog w A b false R ((Value.int p t, Value.int q u) :: us.zip zs) i s
      refine PySem.W.kat_cons (wpAny_eqBool_int ?_)
      by_cases e : p = q
      · subst e
        rw [beq_self_eq_true]
        rw [show decide (rk (p :: ns) < rk (p :: ms)) = decide (rk ns < rk ms) from decide_eq_decide.mpr (TS.code_same hu)] at h
        exact PySem.W.kat_yes (ih (i + 1) hz hl' h1.tail h2.tail h)
      · rw [show (p == q) = false from beq_eq_false_iff_ne.mpr e]
        refine PySem.W.kat_no (TS.oneLt_ints _ ?_)
        have d : decide (rk (p :: ns) < rk (q :: ms)) = decide (p < q) := by
          refine decide_eq_decide.mpr ⟨fun x => ?_, fun x => TS.code_lt hu h1.tail.bd h2.tail.bd (show p + 1000000 < q + 1000000 by omega)⟩
          rcases Int.lt_trichotomy p q with y | y | y
          · exact y
          · exact absurd y e
          · have : rk (q :: ms) < rk (p :: ns) := TS.code_lt hu.symm h2.tail.bd h1.tail.bd (show q + 1000000 < p + 1000000 by omega)
            omega
        rw [d] at h
        exact h
end
/-- what is sorted: tuples of d ints each -/
def Tups (h : Heap) (d : Nat) (vs : List Value) : Prop := ∀ v ∈ vs, ∃ ns, TS.TupInts h v ns ∧ ns.length = d ∧ In ns
theorem Tups.keeps {h h' : Heap} {d : Nat} {vs : List Value} (x : Tups h d vs) (k : ∀ b o, h.get? b = some o → o.cls = .type "tuple" → h'.get? b = some o) : Tups h' d vs := fun v hv => let ⟨ns, t, r⟩ := x v hv; ⟨ns, t.keeps k, r⟩
theorem heads {h : Heap} {d : Nat} (hd : 1 ≤ d) : ∀ vs : List Value, Tups h d vs → ∃ fs, PySem.W.KatTups h vs fs ∧ fs.length = vs.length ∧ ∀ f ∈ fs, ∃ n t, f = Value.int n t
  | [], _ => ⟨[], .nil, rfl, fun f hf => by cases hf⟩
  | v :: vs, x => by
    obtain ⟨fs, k, hl, hi⟩ := heads hd vs fun u hu => x u (List.mem_cons_of_mem _ hu)
    obtain ⟨ns, ⟨a, us, rfl, ⟨o, ho, hc, n, hdt⟩, i⟩, hn, _⟩ := x v List.mem_cons_self
    cases q : us.toList with
    | nil =>
      rw [q] at i
      have l := i.length
      rw [List.length_nil, hn] at l
      omega
    | cons y ys =>
      obtain ⟨m, t, hy⟩ := i.all y (by rw [q]; exact List.mem_cons_self)
      refine ⟨y :: fs, PySem.W.KatTups.cons ho hc hdt ?_ k, by simp [hl], fun f hf => ?_⟩
      · have z := congrArg (fun l : List Value => l[0]?) q
        simpa using z
      · rcases List.mem_cons.mp hf with rfl | hf
        · exact ⟨m, t, hy⟩
        · exact hi f hf
section
variable {prog : Program} {w : World} {A : Around} {E : Value → Shared → Prop} {s : Shared}
theorem kind_up {d : Nat} {vs : List Value} (hd : 1 ≤ d) (h2 : 2 ≤ vs.length) (x : Tups s.heap d vs) (r : Value → Int) (hr : ∀ v ∈ vs, ∀ ns, TS.TupInts s.heap v ns → r v = rk ns) (R : SortKind → Shared → Prop)
    (h : ∀ κ, TS.Cmp prog w A s κ (pairsOf vs) r → R κ s) : wpAny (model prog w) A (keyKind' vs.toArray) R E s := by
  obtain ⟨fs, k, hl, hi⟩ := heads hd vs x
  refine PySem.W.kat_kind (T := Value.type "int") k (by omega) (fun f hf => ?_) rfl (h _ ?_)
  · obtain ⟨n, t, rfl⟩ := hi f hf
    exact PySem.W.Looks.of_pure rfl
  · intro p q hp hq R' E' hR
    rw [pairsOf_toList] at hp hq
    obtain ⟨ns, tp, lp, bp⟩ := x _ (mem_zip_self hp).2
    obtain ⟨ms, tq, lq, bq⟩ := x _ (mem_zip_self hq).2
    have e1 := hr _ (mem_zip_self hp).2 _ tp
    have e2 := hr _ (mem_zip_self hq).2 _ tq
    have hR' : R' (decide (rk ns < rk ms)) s := by
      rw [← e1, ← e2]; exact hR
    obtain ⟨a, us, g1, ⟨o, ho, hc, n, hdt⟩, i⟩ := tp
    obtain ⟨a', zs, g2, ⟨o', ho', hc', n', hdt'⟩, i'⟩ := tq
    rw [g1, g2]
    refine PySem.W.kat_lt ho hdt ho' hdt' ?_
    have sz : decide (us.size < zs.size) = false := by
      have l1 := i.length
      have l2 := i'.length
      rw [Array.length_toList] at l1 l2
      exact decide_eq_false (by omega)
    rw [sz]
    exact lex_up 0 i i' (by omega) bp bq hR'
/-- list.sort of such a list -/
theorem sort_up {a : Addr} {vs : List Value} {n d : Nat} {R : PySem.Fin → Shared → Prop} (ho : s.heap.get? a = some (seqObj "list" vs.toArray n)) (h64 : vs.length < 64) (hd : 1 ≤ d) (x : Tups s.heap d vs)
    (h : ∀ out : Array Value, out.toList.Perm vs → out.toList.Pairwise (fun u v => rk (TS.intsOf s.heap u) ≤ rk (TS.intsOf s.heap v)) → R (.done (.ret .none)) { s with heap := sortedHeap s.heap a vs out }) :
    wpAny (model prog w) A (Builtin.«list.sort» ⟨[.ref a], []⟩) R E s := by
  have keep : ∀ b o, s.heap.get? b = some o → o.cls = .type "tuple" → (TS.midHeap s.heap a vs).get? b = some o := fun b o e hc => TS.midHeap_old (fun z => by
    subst z
    rw [ho] at e
    cases e
    have hc : Value.type "list" = Value.type "tuple" := hc
    injection hc with hc
    exact absurd hc (by decide)) e
  refine SK.plain_sort (r := fun v => rk (TS.intsOf s.heap v)) ho h64 (fun h2 R hR => ?_) fun ps out h1 h2 h3 => ?_
  · refine kind_up (s := { s with heap := TS.midHeap s.heap a vs }) hd h2 (x.keeps keep) _ (fun v hv ns t => ?_) R hR
    obtain ⟨ns0, t0, _⟩ := x v hv
    have e : ns = ns0 := t.ints.symm.trans (t0.keeps keep).ints
    rw [e, t0.ints]
  · obtain ⟨p, o⟩ := TS.out_rank (r := fun v => rk (TS.intsOf s.heap v)) h1 h2 h3
    exact h out p o
end
end TSh
namespace PD
open PySem PySem.Spec PyProof.Rows L2 GxR GenX OwnK
def insT (k : List Int) : List (List Int) → List (List Int)
  | [] => [k]
  | x :: r => if TSh.rk k ≤ TSh.rk x then k :: x :: r else x :: insT k r
def sortT (ks : List (List Int)) : List (List Int) := ks.foldr insT []
theorem insT_perm (k : List Int) : ∀ l, (insT k l).Perm (k :: l)
  | [] => List.Perm.refl _
  | x :: r => by
    unfold insT
    split
    · exact List.Perm.refl _
    · exact ((insT_perm k r).cons x).trans (List.Perm.swap ..)
theorem sortT_perm : ∀ l, (sortT l).Perm l
  | [] => List.Perm.refl _
  | x :: r => (insT_perm x _).trans ((sortT_perm r).cons x)
theorem insT_sorted (k : List Int) : ∀ l, l.Pairwise (fun x y => TSh.rk x ≤ TSh.rk y) → (insT k l).Pairwise (fun x y => TSh.rk x ≤ TSh.rk y)
  | [], _ => List.pairwise_singleton ..
  | x :: r, h => by
    obtain ⟨h1, h2⟩ := List.pairwise_cons.mp h
    unfold insT
    split
    · rename_i hk
      refine List.pairwise_cons.mpr ⟨fun y hy => ?_, h⟩
      rcases List.mem_cons.mp hy with e | hy
      · rw [e]; exact hk
      · exact Int.le_trans hk (h1 y hy)
    · rename_i hk
      refine List.pairwise_cons.mpr ⟨fun y hy => ?_, insT_sorted k r h2⟩
      rcases List.mem_cons.mp ((insT_perm k r).mem_iff.mp hy) with e | hy
      · rw [e]; omega
      · exact h1 y hy
theorem sortT_sorted : ∀ l, (sortT l).Pairwise (fun x y => TSh.rk x ≤ TSh.rk y)
  | [] => List.Pairwise.nil
  | x :: r => insT_sorted x _ (sortT_sorted r)
theorem inj_maps {α β : Type} {f : α → β} : ∀ {l l' : List α}, (∀ a ∈ l, ∀ b ∈ l', f a = f b → a = b) → l.map f = l'.map f → l = l'
  | [], [], _, _ => rfl
  | [], _ :: _, _, e => by cases e
  | _ :: _, [], _, e => by cases e
  | a :: l, b :: l', h, e => by
    rw [List.map_cons, List.map_cons] at e
    injection e with e1 e2
    rw [h a List.mem_cons_self b List.mem_cons_self e1, inj_maps (fun a ha b hb => h a (List.mem_cons_of_mem _ ha) b (List.mem_cons_of_mem _ hb)) e2]
/-- tuples that can be sorted here -/
def okS (d : Nat) (ks : List (List Int)) : Prop := 1 ≤ d ∧ ks.length < 64 ∧ ∀ k ∈ ks, k.length = d ∧ TSh.In k
theorem sortT_uniq {d : Nat} {l ks : List (List Int)} (h : okS d ks) (hp : l.Perm ks) (hs : l.Pairwise (fun x y => TSh.rk x ≤ TSh.rk y)) : l = sortT ks := by
  have hm : ∀ a ∈ l, a.length = d ∧ TSh.In a := fun a ha => h.2.2 a (hp.mem_iff.mp ha)
  have hm2 : ∀ a ∈ sortT ks, a.length = d ∧ TSh.In a := fun a ha => h.2.2 a ((sortT_perm ks).mem_iff.mp ha)
  refine inj_maps (f := TSh.rk) (fun a ha b hb e => TSh.rk_inj (by rw [(hm a ha).1, (hm2 b hb).1]) (hm a ha).2 (hm2 b hb).2 e) ?_
  have p1 : (l.map TSh.rk).Perm (sortI (l.map TSh.rk)) := (sortI_perm _).symm
  have e1 := sorted_uniq p1 (List.pairwise_map.mpr hs) (sortI_sorted _)
  have p2 : ((sortT ks).map TSh.rk).Perm (sortI (l.map TSh.rk)) := (((sortT_perm ks).trans hp.symm).map _).trans p1
  have e2 := sorted_uniq p2 (List.pairwise_map.mpr (sortT_sorted ks)) (sortI_sorted _)
  rw [e1, e2]
section
variable {X : Cx} {F : Frm} {pos p : Pos} {S : Addr → Prop} {H : Hp} {pins : List (Addr × Obj)} {σ : L2.St} {s : Shared}
theorem perm_mapB {α β : Type} {f : α → β} {l : List β} : ∀ {xs : List α}, l.Perm (xs.map f) → ∃ ys : List α, l = ys.map f ∧ ys.Perm xs := by
  intro xs h
  generalize e : xs.map f = m at h
  induction h generalizing xs with
  | nil => cases xs with
    | nil => exact ⟨[], rfl, .nil⟩
    | cons _ _ => cases e
  | @cons x l1 l2 h ih => cases xs with
    | nil => cases e
    | cons a r =>
      cases e
      obtain ⟨ys, e1, e2⟩ := ih rfl
      exact ⟨a :: ys, by rw [e1]; rfl, e2.cons a⟩
  | swap x y l => match xs, e with
    | a :: b :: r, rfl => exact ⟨b :: a :: r, rfl, List.Perm.swap ..⟩
  | trans h1 h2 ih1 ih2 =>
    obtain ⟨ys, e1, p1⟩ := ih2 e
    obtain ⟨zs, e2, p2⟩ := ih1 e1.symm
    exact ⟨zs, e2, p2.trans p1⟩
/-- sorted(d), d a dict whose keys are tuples of ints -/
theorem call_sortedT (hcalm : X.calm = true) : CallR X (.builtin "sorted") (fun vs H Q => ∃ S a xs es d, vs = [V.ref a] ∧ HT H a xs ∧ RelTs X.K S H xs es ∧ okS d (xs.map (·.1)) ∧
    ∀ (L : List (List Int × Addr × Value)) (p : Addr), L.Perm xs → L.Pairwise (fun x y => TSh.rk x.1 ≤ TSh.rk y.1) → H p = none → Q (.ref p) (upd H p (.lst (L.map fun x => V.ref x.2.1)))) := by
  intro pins s σ H vs us Q I r ⟨S, a, xs, es0, d, ex, hT, rt, hok, q⟩
  subst ex
  obtain ⟨u, eu, rx⟩ := vals1 r
  subst eu
  cases rx
  obtain ⟨lo, hl, o, es, ep, ho, hex, hdt, hes, hkeys, hnd⟩ := td_at I hT rt
  have h64 : xs.length < 64 := by have := hok.2.1; rwa [List.length_map] at this
  have l1 : es.size = xs.length := size_of_entries hes
  refine Calls.call_function_entry PyProof.Rows.kind_sorted PyProof.Rows.plain_sorted PyProof.Rows.entry_sorted (PyProof.Rows.args_sorted1 _) ?_
  unfold Builtin.«sorted»
  refine wpAny_bind (m := checkCount "sorted" 1 1 _) (wpAny_pure ?_)
  refine wpAny_bind (PySem.W.kdu_collect (A := X.A.in1) (kdl_raw lo hex hdt) (I.ok.hd hcalm) ho (by omega) fun h' tk acc hk hacc => ?_)
  have ea : acc.toList = xs.map fun x => Value.ref x.2.1 := by
    have hla : acc.toList.length = xs.length := by rw [Array.length_toList, hacc.1, l1]
    apply List.ext_getElem?
    intro j
    rw [List.getElem?_map]
    cases hj : xs[j]? with
    | none =>
      have := List.getElem?_eq_none_iff.mp hj
      rw [List.getElem?_eq_none (by omega)]; rfl
    | some x =>
      have hlt : j < acc.toList.length := by
        have := (List.getElem?_eq_some_iff.mp hj).1
        omega
      obtain ⟨en, hen, hv⟩ := hacc.2 j acc.toList[j] (by rw [← Array.getElem?_toList]; exact List.getElem?_eq_getElem hlt)
      have qe := entry_at hes j
      rw [hen, hj] at qe
      have e2 : en = entryOfKey (PySem.tupleKind (PySem.intKind X.prog X.w)) x := Option.some.inj qe
      rw [List.getElem?_eq_getElem hlt, hv, e2]
      rfl
  have I1 : Inv X pins σ H { s with heap := h', toks := tk } := I.kept hk
  have kx : ∀ x ∈ xs, TS.TupInts h' (.ref x.2.1) x.1 := fun x hx => tupI_raw I1 (show SqT X.K H x.2.1 (x.1.map V.int) by
    rcases rt.keys x hx with ⟨_, h⟩ | h
    · exact .inl h.rd
    · exact .inr h.sq)
  have hvl : acc.toList.length < 64 := by rw [ea, List.length_map]; exact h64
  refine wpAny_bind (wpAny_newList ?_ (by rw [sizeLine_eq]; omega))
  have hoL : (h'.push (seqObj "list" acc.toList.toArray 0)).get? h'.objs.size = some (seqObj "list" acc.toList.toArray 0) := Heap.get?_push_size _ rfl
  have kp : ∀ x ∈ xs, TS.TupInts (h'.push (seqObj "list" acc.toList.toArray 0)) (.ref x.2.1) x.1 := fun x hx => (kx x hx).keeps fun b o e _ => Heap.get?_push_of_some _ e
  have tx : TSh.Tups (h'.push (seqObj "list" acc.toList.toArray 0)) d acc.toList := fun v hv => by
    rw [ea] at hv
    obtain ⟨x, hx, rfl⟩ := List.mem_map.mp hv
    have := hok.2.2 x.1 (List.mem_map.mpr ⟨x, hx, rfl⟩)
    exact ⟨x.1, kp x hx, this.1, this.2⟩
  show wpAny _ _ _ _ _ { s with heap := h'.push (seqObj "list" acc.toList.toArray 0), toks := tk }
  refine wpAny_bind (wpAny_holding (wpAny_call_entry PyProof.Rows.slot_list_sort ⟨_, hoL, rfl⟩ PyProof.Rows.entry_list_sort
    (TSh.sort_up (s := { s with heap := h'.push (seqObj "list" acc.toList.toArray 0), toks := tk }) hoL hvl hok.1 tx fun out g1 g2 => ⟨_, rfl, ?_⟩) (PyProof.Rows.args_list_sort _)))
  obtain ⟨e', he'⟩ := PyProof.Rows.sortedHeap_at (vs := acc.toList) (out := out) hoL
  rw [ea] at g1
  obtain ⟨L, hL, pL⟩ := perm_mapB g1
  have hs : L.Pairwise (fun x y => TSh.rk x.1 ≤ TSh.rk y.1) := by
    rw [hL, List.pairwise_map] at g2
    refine g2.imp_of_mem fun {x y} hx hy h => ?_
    rw [(kp x (pL.mem_iff.mp hx)).ints, (kp y (pL.mem_iff.mp hy)).ints] at h
    exact h
  have hvr : ∀ L : List (List Int × Addr × Value), Vals (L.map fun x => V.ref x.2.1) (L.map fun x => Value.ref x.2.1) := fun L => by
    induction L with
    | nil => exact .nil
    | cons x r ih => exact .cons rfl ih
  have hlen : (L.map fun x => V.ref x.2.1).length ≤ sizeLine := by
    rw [List.length_map, pL.length_eq]
    omega
  refine wpAny_pure ⟨_, rfl, .ref h'.objs.size, upd H h'.objs.size (.lst (L.map fun x => V.ref x.2.1)), I1.laid (t' := tk) (fun b u e => ?_) (Nat.le_refl _)
    (show ObjOk X.prog X.w _ _ _ (.lst (L.map fun x => V.ref x.2.1)) from ⟨hlen, out.toList, e', by rw [hL]; exact hvr L, by rw [Array.toArray_toList]; exact he'⟩), rfl, q L _ pL hs (I1.hok.fresh (Nat.le_refl _))⟩
  have hb : b < h'.objs.size := Heap.lt_size e
  rw [PyProof.Rows.sortedHeap_old (Nat.ne_of_lt hb) (by rw [size_push']; exact Nat.lt_succ_of_lt hb)]
  exact Heap.get?_push_of_some _ e
/-- the keys -/
def keysT : List (D × D) → Option (List (List Int))
  | [] => some []
  | (kd, _) :: r => (match keyT kd, keysT r with
    | some k, some l => some (k :: l)
    | _, _ => none)
def tupI (ks : List Int) : D := .tuple (ks.map .int)
instance {ns : List Int} : Decidable (TSh.In ns) := inferInstanceAs (Decidable (∀ m ∈ ns, _))
instance {d : Nat} {ks : List (List Int)} : Decidable (okS d ks) := inferInstanceAs (Decidable (_ ∧ _ ∧ _))
def gSortedT : List D → Option D
  | [d] => (match tdE d with
    | some es => (match keysT es with
      | some ks => if okS (ks.headD [0]).length ks then some (.list ((sortT ks).map tupI)) else none
      | none => none)
    | none => none)
  | _ => none
def gLenT : List D → Option D
  | [d] => (tdE d).map fun es => .int es.length
  | _ => none
theorem RelTs.keysT {K : PySem.W.Frag} : ∀ {xs : List (List Int × Addr × Value)} {es : List (D × D)}, RelTs K S H xs es → PD.keysT es = some (xs.map (·.1))
  | _, _, .nil => rfl
  | _, _, .cons _ _ _ t => by
    unfold PD.keysT
    rw [keyT_ints, t.keysT]
    rfl
theorem KeyAt.rel {K : PySem.W.Frag} {b : Addr} {ks : List Int} (h : KeyAt K S H b ks) : RelD K S H (.ref b) (tupI ks) := by
  rcases h with ⟨n, s⟩ | s
  · exact .tup n s (rels_ints ks)
  · exact .tupK s (rels_ints ks)
theorem rels_keys {K : PySem.W.Frag} : ∀ {L : List (List Int × Addr × Value)}, (∀ x ∈ L, KeyAt K S H x.2.1 x.1) → RelDs K S H (L.map fun x => V.ref x.2.1) (L.map fun x => tupI x.1)
  | [], _ => .nil
  | x :: r, h => .cons (h x List.mem_cons_self).rel (rels_keys fun y hy => h y (List.mem_cons_of_mem _ hy))
theorem c_sortedT {K : PySem.W.Frag} (hc : X.calm = true) (hK : X.K = K := by rfl) : CallR X (.builtin "sorted") (rcall K gSortedT) := by
  subst hK
  intro pins s σ H vs us Q I r ⟨S, ds, d, hr, e, occ, k⟩
  unfold gSortedT at e
  split at e
  · rename_i d0
    split at e
    · rename_i es he
      split at e
      · rename_i ks hk
        split at e
        · rename_i hok
          cases e
          obtain ⟨v, rfl, r1⟩ := prs1 hr
          obtain ⟨a, xs, rfl, hT, rt⟩ := r1.td he
          rw [rt.keysT] at hk
          cases hk
          refine call_sortedT hc pins s σ H _ us Q I r ⟨S, a, xs, es, _, rfl, hT, rt, hok, fun L p pL hs hp => ?_⟩
          have e1 : L.map (·.1) = sortT (xs.map (·.1)) := sortT_uniq hok (pL.map _) (List.pairwise_map.mpr hs)
          rw [← e1, List.map_map] at k
          have rk := rels_keys (K := X.K) (S := S) (H := H) (L := L) fun x hx => rt.keys x (pL.mem_iff.mp hx)
          exact k _ _ (Ext.new hp) (.lst (fun z => occ _ z hp) (.inl upd_same) (rk.ext (Ext.new hp)))
        · cases e
      · cases e
    · cases e
  · cases e
theorem c_lenT {K : PySem.W.Frag} (hK : X.K = K := by rfl) : CallR X (.builtin "len") (rcall K gLenT) := by
  subst hK
  intro pins s σ H vs us Q I r ⟨S, ds, d, hr, e, occ, k⟩
  unfold gLenT at e
  split at e
  · rename_i d0
    cases he : tdE d0 with
    | none => rw [he] at e; cases e
    | some es =>
      rw [he] at e
      cases e
      obtain ⟨v, rfl, r1⟩ := prs1 hr
      obtain ⟨a, xs, rfl, hT, rt⟩ := r1.td he
      obtain ⟨u, eu, rx⟩ := vals1 r
      subst eu
      cases rx
      obtain ⟨hd, hl, dd⟩ := td_at I hT rt
      refine PySem.call_len_dictH hd dd (by rw [sizeLine_eq] at hl; omega) ?_
      rw [rt.length]
      exact ⟨.int es.length, H, I.tok _, ⟨_, rfl⟩, k _ H (Ext.refl H) (.int _)⟩
  · cases e
end
end PD

set_option Elab.async false
set_option linter.all false
set_option maxRecDepth 100000
set_option maxHeartbeats 2000000
/-! PEa: max(a list or tuple of ints). -/
namespace PD
open PySem PySem.Spec PyProof.Rows L2 GxR GenX OwnK
section
variable {prog : Program} {w : World} {A : Around} {E : Value → Shared → Prop} {s : Shared} {l : Addr} {its : List Value} {ns : List Int} {Q : Value → Shared → Prop}
theorem max_tupRaw (hh : A.handled = none) (hl : s.heap.IsTuple l its.toArray) (hi : IntsAre its ns) (hne : 0 < ns.length)
    (h : ∀ h' tk M t', (∀ b o, s.heap.get? b = some o → h'.get? b = some o) → M ∈ ns → (∀ a, a ∈ ns → a ≤ M) → Q (.int M t') { s with heap := h', toks := tk }) : wpAny (model prog w) A (call (.builtin "max") [.ref l]) Q E s := by
  obtain ⟨xs, e⟩ := hi.allInts.items
  have hn : numsOf (intItems xs).toList = ns := by rw [← e]; exact hi.numsOf
  rw [nums_intItems] at hn
  subst hn
  rw [e] at hl
  have hsz : 0 < xs.size := by simpa using hne
  have hlt : l < s.heap.objs.size := by obtain ⟨_, e, _⟩ := hl; exact Heap.lt_size e
  refine PySem.call_max_walk (PySem.wpAny_pyIter_tuple hl ?_)
  refine ⟨_, [_, l], [_], _, _, _, _, rfl, Walks.tuple (A := A.in1) hh _ l (Nat.ne_of_lt hlt) (intItems xs), ⟨⟨_, Heap.get?_push_size _ rfl, rfl, rfl⟩, hl.push _⟩, fun c hc => ?_, by simpa [intItems] using hsz, PySem.CmpOf.ints_gt (PySem.numAt xs) (fun _ _ => PySem.intItems_at), fun v h' tk hP hk => ?_⟩
  · show c < (s.heap.push _).objs.size
    rw [Heap.size_push]
    rcases List.mem_cons.mp hc with rfl | hc
    · exact Nat.lt_succ_self _
    · rw [List.mem_singleton.mp hc]; exact Nat.lt_succ_of_lt hlt
  · have hv : (intItems xs)[PySem.argBest (fun i j => decide (PySem.numAt xs i > PySem.numAt xs j)) (xs.size - 1)]? = some v := by simpa [intItems] using hP
    have hold : ∀ c o, s.heap.get? c = some o → h'.get? c = some o := fun c o e => hk c o (fun hm => by
      have := Heap.lt_size e
      rw [List.mem_singleton.mp hm] at this
      exact Nat.lt_irrefl _ this) (Heap.get?_push_of_some _ e)
    obtain ⟨t, rfl⟩ := PySem.intItems_at hv
    obtain ⟨h1, h2⟩ := PySem.argBest_gt (PySem.numAt xs) (xs.size - 1)
    refine h h' tk _ t hold ?_ fun a ha => ?_
    · rw [numAt_eq]; exact PySem.getD_mem (by rw [List.length_map, Array.length_toList]; omega)
    · obtain ⟨j, hj, rfl⟩ := mem_getD ha
      rw [List.length_map, Array.length_toList] at hj
      rw [← numAt_eq]; exact h2 j (by omega)
end
/-- the greatest -/
def maxO : List Int → Option D
  | [] => none
  | n :: r => some (.int (r.foldl (fun m x => if m < x then x else m) n))
def gMax1 : List D → Option D
  | [.list ds] => (allInts ds).bind maxO
  | [.tuple ds] => (allInts ds).bind maxO
  | _ => none
theorem fold_max : ∀ (r : List Int) (n : Int), (r.foldl (fun m x => if m < x then x else m) n = n ∨ r.foldl (fun m x => if m < x then x else m) n ∈ r) ∧ n ≤ r.foldl (fun m x => if m < x then x else m) n ∧ ∀ y ∈ r, y ≤ r.foldl (fun m x => if m < x then x else m) n
  | [], n => ⟨.inl rfl, Int.le_refl _, fun y hy => by cases hy⟩
  | x :: r, n => by
    rw [List.foldl_cons]
    obtain ⟨h1, h2, h3⟩ := fold_max r (if n < x then x else n)
    generalize r.foldl (fun m x => if m < x then x else m) (if n < x then x else n) = M at *
    refine ⟨?_, ?_, fun y hy => ?_⟩
    · rcases h1 with h1 | h1
      · split at h1
        · exact .inr (by rw [h1]; exact List.mem_cons_self)
        · exact .inl h1
      · exact .inr (List.mem_cons_of_mem _ h1)
    · split at h2 <;> omega
    · rcases List.mem_cons.mp hy with e | hy
      · subst e; split at h2 <;> omega
      · exact h3 y hy
theorem maxO_spec {ns : List Int} {d : D} (h : maxO ns = some d) : 0 < ns.length ∧ ∃ M, d = .int M ∧ M ∈ ns ∧ ∀ y ∈ ns, y ≤ M := by
  cases ns with
  | nil => cases h
  | cons n r =>
    cases h
    obtain ⟨h1, h2, h3⟩ := fold_max r n
    refine ⟨Nat.succ_pos _, _, rfl, ?_, fun y hy => ?_⟩
    · rcases h1 with h1 | h1
      · rw [h1]; exact List.mem_cons_self
      · exact List.mem_cons_of_mem _ h1
    · rcases List.mem_cons.mp hy with e | hy
      · rw [e]; exact h2
      · exact h3 y hy
theorem max_uniq {ns : List Int} {M m : Int} (h1 : M ∈ ns) (h2 : ∀ y ∈ ns, y ≤ M) (h3 : m ∈ ns) (h4 : ∀ y ∈ ns, y ≤ m) : m = M := Int.le_antisymm (h2 m h3) (h4 M h1)
section
variable {X : Cx} {K : PySem.W.Frag}
theorem c_max1 (hc : X.calm = true) (hK : X.K = K := by rfl) : CallR X (.builtin "max") (rcall K gMax1) := by
  subst hK
  intro pins s σ H vs us Q I r ⟨S, ds, d, hr, e, occ, k⟩
  unfold gMax1 at e
  split at e
  · rename_i l
    cases q : allInts l with
    | none => rw [q] at e; cases e
    | some ns =>
      rw [q] at e
      obtain ⟨hne, M, rfl, h1, h2⟩ := maxO_spec (ns := ns) e
      obtain ⟨v, rfl, r1⟩ := prs1 hr
      obtain ⟨a, ys, rfl, g1, q1⟩ := r1.list
      have z := allInts_rel q q1
      subst z
      refine cr_max hc pins s σ H _ us Q I r ⟨a, ns, rfl, g1, hne, fun m g2 g3 => ?_⟩
      rw [max_uniq h1 h2 g2 g3]
      exact k _ H (Ext.refl H) (.int _)
  · rename_i l
    cases q : allInts l with
    | none => rw [q] at e; cases e
    | some ns =>
      rw [q] at e
      obtain ⟨hne, M, rfl, h1, h2⟩ := maxO_spec (ns := ns) e
      obtain ⟨v, rfl, r1⟩ := prs1 hr
      obtain ⟨a, ys, rfl, g1, q1⟩ := r1.tuple
      have z := allInts_rel q q1
      subst z
      obtain ⟨its, rv, hl, _⟩ := I.tuple g1
      rw [Vals.ref1 r]
      refine max_tupRaw (I.ok.hd hc) (show s.heap.IsTuple a its.toArray from hl) rv.ints hne fun h' tk m t' hk g2 g3 => ?_
      rw [max_uniq h1 h2 g2 g3]
      exact ⟨.int M, H, I.kept hk, ⟨_, rfl⟩, k _ H (Ext.refl H) (.int _)⟩
  · cases e
theorem sputT {F : Frm} {pos : Pos} (i : Nat) {x : Str} {k value : Expr} {mk mv : M D} {depk effk effv : List Nat} {xp pos' : Pos} (hu : X.A.units + 1 < cLine) (hk : PE X k (rd F mk depk effk)) (hval : PE X value (rd F mv [] effv)) (hN : X.N[i]? = some x := by rfl) (hv : Vis X.env.scope x := by first | exact Or.inl rfl | exact Or.inr (Or.inl rfl) | exact Or.inr (Or.inr rfl)) (hne : (!decide (i ∈ effk)) = true := by rfl)
    (hs : swapsWith value (some (.Subscript (.Name x xp) k pos')) pos.line X.env = pure false := by rfl) (hd : (x == ("__debug__" : Str)) = false := by decide) (hcd : (x == ("__classdict__" : Str)) = false := by decide) (hK : X.K = F.K := by rfl) :
    PS X (.Assign [.Subscript (.Name x xp) k pos'] value pos) (rdS F (mPutT i mk mv)) := s_putT hu hN hv hk hval (nio hne) hs hd hcd hK
end
end PD

set_option Elab.async false
set_option linter.all false
set_option maxRecDepth 100000
set_option maxHeartbeats 4000000
/-! PEb: a dict comprehension, however its keys are put; keys that are tuples of ints. -/
namespace DcG
open PySem PySem.Spec PyProof.Rows L2
/-- d[y] = z in the tracked heap: what may come next -/
abbrev PutR := Addr → V → V → Hp → (Hp → Prop) → Prop
/-- the put is right in the context Y -/
def PutOk (Y : Cx) (Put : PutR) : Prop := ∀ (pins : List (Addr × Obj)) (σ : L2.St) (G : Hp) (t : Shared) (E : Value → Shared → Prop) (d : Addr) (y z : V) (u r : Value) (Nx : Hp → Prop) (Qd : Unit → Shared → Prop), Inv Y pins σ G t → Put d y z G Nx → RelV y u → RelV z r → (∀ t' G', Inv Y pins σ G' t' → Nx G' → Qd () t') → wpAny (model Y.prog Y.w) Y.A (dictSet d u r) Qd E t
section
variable {X : Cx} {Put : PutR}
/-- {k: v for .. in .. if ..} -/
def tDcG (Put : PutR) (wi : TI) (g : TG) (tt : TT) (tk tv : TE) (vs : List Nat) : TE := fun σ H Q => wi σ H fun J H1 => ∀ d, H1 d = none → ∃ W : Nat → Nat → Hp → Prop, (∃ m, W 0 m (upd H1 d (.dK []))) ∧ ∀ i m G, W i m G →
  (J.stop i G ∧ Q (.ref d) G) ∨ (J.go i G ∧ ∃ Nx : Hp → Prop, (∀ G', Nx G' → ∃ m', m' < m ∧ W (i + 1) m' G') ∧ ∀ x G', J.yld i G x G' → g x (L2.wipe σ vs) G' fun σ2 G2 => L2.wipe σ2 vs = L2.wipe σ vs ∧ tt σ2 G2 fun b G3 =>
    if b = true then tk σ2 G3 fun y G4 => tv σ2 G4 fun z G5 => Put d y z G5 Nx else Nx G3)
section
variable {kx vx tg iter : Expr} {ifs : List Expr} {scope : Scope} {own : List (Str × Nat)} {cpos pos' : Pos} {wi : TI} {g : TG} {tt : TT} {tk tv : TE}
/-- the rules of the block's parts, in any block's context -/
structure Parts (X : Cx) (tg : Expr) (ifs : List Expr) (kx vx : Expr) (scope : Scope) (g : TG) (tt : TT) (tk tv : TE) (Put : PutR) : Prop where
  pg : ∀ (t : Shared) (G : Hp) (C : Addr) (cl : List (Str × Addr)) (fs : List Addr), PG (X.blk t G scope (compEnvC scope cl C X.env) fs) tg g
  pt : ∀ (t : Shared) (G : Hp) (C : Addr) (cl : List (Str × Addr)) (fs : List Addr), PTs (X.blk t G scope (compEnvC scope cl C X.env) fs) ifs tt
  pk : ∀ (t : Shared) (G : Hp) (C : Addr) (cl : List (Str × Addr)) (fs : List Addr), PE (X.blk t G scope (compEnvC scope cl C X.env) fs) kx tk
  pv : ∀ (t : Shared) (G : Hp) (C : Addr) (cl : List (Str × Addr)) (fs : List Addr), PE (X.blk t G scope (compEnvC scope cl C X.env) fs) vx tv
  put : ∀ (t : Shared) (G : Hp) (C : Addr) (cl : List (Str × Addr)) (fs : List Addr), PutOk (X.blk t G scope (compEnvC scope cl C X.env) fs) Put
theorem core {pins : List (Addr × Obj)} {s : Shared} {σ : L2.St} {H : Hp} {Q : VK} {use : Option (Value → Sem Unit)} {Qf : Value → Shared → Prop}
    (hc : X.calm = true) (hN : X.N.Nodup) (I : Inv X pins σ H s) (hi : PI X tg iter wi) (ok : BlkOk X.N X.env.scope scope own) (P : Parts X tg ifs kx vx scope g tt tk tv Put) (hs : ∀ x, foldedSetIterable iter X.env x = pure x) (h : tDcG Put wi g tt tk tv (own.map (·.2)) σ H Q)
    (hend : ∀ d C t m G, Inv X pins σ G t → Q (.ref d) G → t.heap.Ns C m → FpOk X pins G C → compPost (model X.prog X.w) X.A X.xe use Qf (.ref d) C (.ok .next) t) :
    wpAny (model X.prog X.w) X.A (comprehension (.DictComp kx vx [⟨tg, iter, ifs, 0⟩] scope cpos) scope X.env pos' newDict false (eval iter X.env) use) Qf X.xe s := by
  have hfr : ∀ n ∈ scope.names, n.2 = .free → ∃ c, X.env.cells.lookup n.1 = some c := fun n hn e => (ok.free n hn e).elim (fun k => I.ok.has _ (.inl k)) fun k => I.ok.has _ (.inr k)
  refine wpAny_comprehension_free (use := use) rfl hs (closure_ok hfr) ok.kind (fun n hn e => by rw [ok.uniq n hn, e]) (thn (hi.run pins s σ H _ I h) fun iv sa ha => thn ha fun itv sb ⟨itr, fs, tn, J, G, ei, Ib, T, stb, fb, q⟩ => ?_)
  subst ei
  refine wpAny_newObj_type (newEnv_comp ?_)
  generalize hd : sb.heap.objs.size = d
  obtain ⟨W, ⟨m0, w0⟩, turn⟩ := q d (Ib.hok.fresh (Nat.le_of_eq hd))
  generalize hsc : ({ sb with heap := sb.heap.push { cls := .type "dict", data := .dict #[] } } : Shared) = sc
  have hhp : sc.heap = sb.heap.push { cls := .type "dict", data := .dict #[] } := by rw [← hsc]
  have Ic : Inv X pins σ (upd G d (.dK [])) sc := by
    rw [← hsc]
    refine Ib.laid (t' := sb.toks) (fun b o e => Heap.get?_push_of_some _ e) (Nat.le_of_eq hd) ?_
    rw [← hd]; exact dk_empty sb.heap Ib.big
  have fc : ∀ b ∈ fs, FpOk X pins (upd G d (.dK [])) b ∧ b < sc.heap.objs.size := fun b hb => by
    obtain ⟨ob, e, _⟩ := T.obj _ _ stb b hb
    have hlt := Heap.lt_size e
    obtain ⟨k0, k1⟩ := fb b hb
    refine ⟨⟨?_, k1⟩, by rw [hhp, Heap.size_push]; exact Nat.lt_succ_of_lt hlt⟩
    rw [upd_ne (fun z => Nat.lt_irrefl _ (by rw [z, ← hd] at hlt; exact hlt))]
    exact k0
  have Id := block_start Ic ok hN fc
  generalize hcl : cellsFrom (sc.heap.objs.size + 1) scope.names (cloFrom X.env.cells scope.names []) = cl at Id
  have pg := P.pg sc (upd G d (.dK [])) sc.heap.objs.size cl fs
  have pt := P.pt sc (upd G d (.dK [])) sc.heap.objs.size cl fs
  have pk := P.pk sc (upd G d (.dK [])) sc.heap.objs.size cl fs
  have pv := P.pv sc (upd G d (.dK [])) sc.heap.objs.size cl fs
  have pp := P.put sc (upd G d (.dK [])) sc.heap.objs.size cl fs
  have nf : ∀ b ∈ fs, upd G d (.dK []) b = none := fun b hb => (fc b hb).1.1
  generalize hGc : upd G d (.dK []) = Gc at Ic Id pg pt pk pv pp w0 nf fc
  show codeAny _ _ (.compStart (.DictComp kx vx [⟨tg, iter, ifs, 0⟩] scope cpos) 0 (.ref itr) (.ref d) (compEnvC scope cl sc.heap.objs.size X.env)) (compPost (model X.prog X.w) X.A X.xe use Qf (.ref d) sc.heap.objs.size) { sc with heap := pushCells (sc.heap.push { cls := .type "dict", data := .dict #[] }) scope.names }
  have hloc : (compEnvC scope cl sc.heap.objs.size X.env).locals = sc.heap.objs.size := rfl
  generalize compEnvC scope cl sc.heap.objs.size X.env = ce at *
  generalize hsd : ({ sc with heap := pushCells (sc.heap.push { cls := .type "dict", data := .dict #[] }) scope.names } : Shared) = sd at Id ⊢
  have std : tn 0 sd.heap := T.keep _ _ _ stb fun b _ ob e => by
    rw [← hsd]
    refine pushCells_keeps _ _ _ _ (Heap.get?_push_of_some _ ?_)
    rw [hhp]; exact Heap.get?_push_of_some _ e
  have fp2 : ∀ {σ' : L2.St} {G' : Hp} {t : Shared}, Inv (X.blk sc Gc scope ce fs) [] σ' G' t → (∀ b ∈ fs, G' b = none) → ∀ b ∈ fs, FpOk (X.blk sc Gc scope ce fs) [] G' b := fun {σ' G' t} I' hn b hb => by
    have x1 := I'.ok.exf b hb
    exact ⟨hn b hb, x1.1, I'.ok.exfs b hb, .inl hb, fun x c e => x1.2 x c e, fun p hp => by cases hp⟩
  suffices loop : codeAny (model X.prog X.w) X.A (.compLoop (.DictComp kx vx [⟨tg, iter, ifs, 0⟩] scope cpos) 0 (.ref itr) (.ref d) ce) (compPost (model X.prog X.w) X.A X.xe use Qf (.ref d) sc.heap.objs.size) sd from codeAny_compStart_dict loop (T.self X.A 0 _ _ _ std loop)
  refine compLoop_anyD (fun n t => ∃ i G', Inv (X.blk sc Gc scope ce fs) [] (L2.wipe σ (own.map (·.2))) G' t ∧ tn i t.heap ∧ (∀ b ∈ fs, G' b = none) ∧ W i n G') ?_ m0 ⟨0, Gc, Id, std, nf, w0⟩
  rintro n te ⟨i, Ge, Ie, ste, ne, we⟩
  rcases turn i n Ge we with ⟨stop, qd⟩ | ⟨go, Nx, hNx, step⟩
  · refine thnF (T.done (X.blk sc Gc scope ce fs) rfl rfl rfl hc i [] te _ Ge (fun _ _ => False) Ie (fp2 Ie ne) ste stop) fun r tf ⟨hr, If⟩ => ?_
    subst hr
    have Ig : Inv X pins σ Ge tf := Ic.call' (ch := fs) If.os If.base If.hok If.bare fun b hb => by
      obtain ⟨⟨_, k1, k2, k3, k4, k5⟩, _⟩ := fc b hb
      exact ⟨k3, k1, k4, k5⟩
    have free : Ge ce.locals = none := If.free
    obtain ⟨m, hm, _⟩ := If.loc
    have hm : tf.heap.Ns ce.locals m := hm
    rw [hloc] at free hm
    exact hend d _ tf m Ge Ig qd hm (Ic.fpOk (Nat.le_refl _) free)
  · refine thnF (T.item (X.blk sc Gc scope ce fs) rfl rfl rfl hc i [] te _ Ge (fun _ _ => False) Ie (fp2 Ie ne) ste go) fun r tf ⟨u, hr, hf⟩ => ?_
    subst hr
    refine thnF hf fun _ tq ⟨x, Gq, Iq, rx, yq, stq, nq⟩ => ?_
    refine thnF (pg.run _ tq _ Gq x u _ (Iq.pinned (fp2 Iq nq) (T.obj _ _ stq)) rx (step x Gq yq)) fun _ tr ⟨σr, Gr, Ir, hwr, qr⟩ => ?_
    refine thnF (pt.run _ tr σr Gr _ Ir qr) fun b tu ⟨Gu, Iu, qu⟩ => ?_
    -- the turn is over
    have fin : ∀ (t' : Shared) (G' : Hp), Inv (X.blk sc Gc scope ce fs) ([] ++ pinsAt fs tq.heap) σr G' t' → Nx G' → ∃ m, m < n ∧ ∃ i G', Inv (X.blk sc Gc scope ce fs) [] (L2.wipe σ (own.map (·.2))) G' t' ∧ tn i t'.heap ∧ (∀ b ∈ fs, G' b = none) ∧ W i m G' := fun t' G' I' nx => by
      obtain ⟨m', hm, w'⟩ := hNx G' nx
      have kept : ∀ b ∈ fs, ∀ ob, tq.heap.get? b = some ob → t'.heap.get? b = some ob ∧ G' b = none := fun b hb ob e => by
        have z := I'.pin (b, ob) (List.mem_append_right _ (List.mem_append_right _ (mem_pinsAt hb e)))
        exact ⟨z.1, z.2.1⟩
      refine ⟨m', hm, i + 1, G', (I'.unpinned (pins := [])).weak (by rw [← hwr, wipe_length]) (fun j v e => ?_), T.keep _ _ _ stq fun b hb ob e => (kept b hb ob e).1, fun b hb => ?_, w'⟩
      · rw [← hwr] at e
        exact (wipe_some e).1
      · obtain ⟨ob, e, _⟩ := T.obj _ _ stq b hb
        exact (kept b hb ob e).2
    cases b with
    | false => exact fin _ _ Iu qu
    | true =>
      simp only [if_true] at qu ⊢
      refine thnF (pk.run _ tu σr Gu _ Iu qu) fun kv tv' ⟨y, Gv, Iv, ry, qv⟩ => ?_
      refine thnF (pv.run _ tv' σr Gv _ Iv qv) fun vv tw ⟨z, Gw, Iw, rz, qw⟩ => ?_
      exact pp _ _ _ _ _ _ _ _ _ _ _ _ Iw qw ry rz fun t' G' I' nx => fin t' G' I' nx
end
end
end DcG
namespace PD
open PySem PySem.Spec PyProof.Rows L2 GxR GenX OwnK
/-- d[y] = z, y a tuple of ints -/
def PutT (K : PySem.W.Frag) : DcG.PutR := fun d y z G Nx => ∃ S xs es ks b, (G d = some (.ext (TDict d xs)) ∨ (xs = [] ∧ G d = some (.dK []))) ∧ RelTs K S G xs es ∧ y = .ref b ∧ KeyAt K S G b ks ∧ xs.length < sizeLine ∧ ∀ u, RelV z u → Nx (upd G d (.ext (TDict d (storedH xs ks b u))))
theorem putT_put {Y : Cx} {K : PySem.W.Frag} (hK : Y.K = K) (hu : Y.A.units < cLine) : DcG.PutOk Y (PutT K) := by
  subst hK
  intro pins σ G t E d y z u r Nx Qd I ⟨S, xs, es, ks, b, h, rt, ey, hb, hl, hN⟩ ry rz q
  subst ey
  cases ry
  obtain ⟨hd, hl0, dd⟩ := td_at I (h.imp id fun ⟨e, h⟩ => ⟨e, .inl h⟩) rt
  have mu : Mut (G d) := by
    rcases h with h | ⟨_, h⟩ <;> (rw [h]; exact True.intro)
  refine PySem.wpAny_dictSet_heap (hsz := hl0) (show (PySem.tupleKind (PySem.intKind Y.prog Y.w)).room Y.A from hu) (key_ofT I hb) dd fun h' dd' hs => q _ _ ?_ (hN r rz)
  have he : ∃ q, h'.get? d = some q := let ⟨q, _, _, hq, _⟩ := dd'; ⟨q, hq⟩
  exact d_write I mu hs he (td_ok hd (by have := storedH_len xs ks b r; omega) dd')
/-- the data of what has been put -/
def tdC : List (D × D) → D
  | [] => .dict []
  | e :: r => tdD (e :: r)
def TdSt (G : Hp) (d : Addr) (xs : List (List Int × Addr × Value)) (acc : List (D × D)) : Prop := (xs = [] ∧ acc = [] ∧ G d = some (.dK [])) ∨ (xs ≠ [] ∧ G d = some (.ext (TDict d xs)))
theorem TdSt.keep {G G' : Hp} {d : Addr} {xs : List (List Int × Addr × Value)} {acc : List (D × D)} (h : TdSt G d xs acc) (k : ∀ o, G d = some o → (∀ ps, o ≠ .tbl ps) → G' d = some o) : TdSt G' d xs acc := by
  rcases h with ⟨a, b, e⟩ | ⟨a, e⟩
  · exact .inl ⟨a, b, k _ e fun ps z => nomatch z⟩
  · exact .inr ⟨a, k _ e fun ps z => nomatch z⟩
theorem TdSt.st {G : Hp} {d : Addr} {xs : List (List Int × Addr × Value)} {acc : List (D × D)} (h : TdSt G d xs acc) : G d = some (.ext (TDict d xs)) ∨ (xs = [] ∧ G d = some (.dK [])) := by
  rcases h with ⟨a, b, e⟩ | ⟨a, e⟩
  · exact .inr ⟨a, e⟩
  · exact .inl e
theorem TdSt.rel {K : PySem.W.Frag} {S : Addr → Prop} {G : Hp} {d : Addr} {xs : List (List Int × Addr × Value)} {acc : List (D × D)} (h : TdSt G d xs acc) (r : RelTs K S G xs acc) : RelO K S G d (tdC acc) := by
  rcases h with ⟨a, b, e⟩ | ⟨a, e⟩
  · subst a b
    exact .inl ⟨[], e, .nil⟩
  · cases acc with
    | nil => cases r; exact absurd rfl a
    | cons p l => exact .inr ⟨xs, e, .mk r⟩
theorem RelTs.mono {K : PySem.W.Frag} {S S' C : Addr → Prop} {G G' : Hp} {xs : List (List Int × Addr × Value)} {ds : List (D × D)} (r : RelTs K S G xs ds) (g : Gro C G G') (h1 : ∀ a, S' a → S a) (h2 : ∀ a, C a → S a) : RelTs K S' G' xs ds := RelTs.mono' g h1 h2 _ _ r
theorem RelTs.ext {K : PySem.W.Frag} {S : Addr → Prop} {G G' : Hp} {xs : List (List Int × Addr × Value)} {ds : List (D × D)} (g : Ext G G') (r : RelTs K S G xs ds) : RelTs K S G' xs ds := r.mono (C := fun _ => False) g.gro (fun _ z => z) fun _ z => z.elim
theorem RelMk.ts {K : PySem.W.Frag} {S : Addr → Prop} {G : Hp} {xs : List (List Int × Addr × Value)} {k d : D} {ds : List (D × D)} (h : RelMk K S G xs ((k, d) :: ds)) : RelTs K S G xs ds := by
  cases h with
  | mk h => exact h
theorem storedH_ne (xs : List (List Int × Addr × Value)) (k : List Int) (b : Addr) (u : Value) : storedH xs k b u ≠ [] := by
  unfold storedH
  split
  · rename_i h
    cases xs with
    | nil => cases h
    | cons _ _ => simp
  · simp
theorem RR.mono' {K : PySem.W.Frag} {S S' C : Addr → Prop} {G G' : Hp} {ks : List Int} {v : V} (r : RR K S G v (.tuple (ks.map .int))) (g : Gro C G G') (h1 : ∀ a, S' a → S a) (h2 : ∀ a, C a → S a) : RR K S' G' v (.tuple (ks.map .int)) := by
  rcases r with r | ⟨a, _, r⟩
  · exact .inl (r.mono g h1 h2)
  · exact r.elim
section
variable {X : Cx} {F : Frm} {pos p : Pos} {tg : Expr}
def dcLT (g : D → Rho → Option Rho) (mt : M Bool) (mk mv : M D) (vs : List Nat) : List D → List (D × D) → Rho → Option (List (D × D) × Rho)
  | [], acc, ρ => some (acc, ρ)
  | d :: r, acc, ρ => match g d ρ with
    | none => none
    | some ρ1 => (match mt ρ1 with
      | some (true, ρ2) => (match mk ρ2 with
        | some (kd, ρk) => (match mv ρk with
          | some (y, ρ3) => (match keyT kd with
            | some key => if acc.length < sizeLine then dcLT g mt mk mv vs r (dputT acc key y) (wipeR ρ3 vs) else none
            | none => none)
          | none => none)
        | none => none)
      | some (false, ρ2) => dcLT g mt mk mv vs r acc (wipeR ρ2 vs)
      | none => none)
def mDcT (mi : M (List D)) (g : D → Rho → Option Rho) (mt : M Bool) (mk mv : M D) (vs : List Nat) : M D := fun ρ => match mi ρ with
  | some (ds, ρ1) => (match dcLT g mt mk mv vs ds [] (wipeR ρ1 vs) with
    | some (acc, ρ2) => some (tdC acc, wipeR ρ2 vs)
    | none => none)
  | none => none
theorem rd_dcT {mi : M (List D)} {g : D → Rho → Option Rho} {mt : M Bool} {mk mv : M D} {effi efft effk effe vs : List Nat} (hv : ∀ i ∈ vs, i ∉ F.io) {σ : L2.St} {H : Hp} {Q : VK} (h : rdN F (mDcT mi g mt mk mv vs) (effi ++ (vs ++ (efft ++ (effk ++ effe)))) σ H Q) :
    DcG.tDcG (PutT F.K) (rdI F mi effi) (wE F vs g) (tE F mt efft) (eE F mk [] effk) (eE F mv [] effe) vs σ H Q := by
  obtain ⟨B, A, ρ, d, ρ', E, hm, k⟩ := h
  unfold mDcT at hm
  split at hm
  · rename_i ds ρ1 e1
    split at hm
    · rename_i res ρ2 e2
      cases hm
      refine ⟨B, A, ρ, ds, ρ1, E, e1, fun J G H1 P1 hG it D hD => ?_⟩
      have Elay : Ev F (D :: B) A σ (upd H1 D (.dK [])) ρ1 := P1.env.hide hD (Ext.new hD) (by rw [upd_same]; simp)
      have ew : ∀ i, i ∉ vs → (L2.wipe σ vs)[i]? = σ[i]? := fun i h => wipe_ne h
      have E0 : Ev (F.more G) (D :: B) A (L2.wipe σ vs) (upd H1 D (.dK [])) (wipeR ρ1 vs) := by
        refine Ev.more ((Elay).wipe (wipe_length σ vs) ew hv) fun r hr => ?_
        refine ((hG r hr).away hD av_cons).ext (Ext.new hD) |>.mono (C := fun _ => False) (Gro.refl _) (fun a z => ?_) fun _ z => z.elim
        rcases z with z | z | ⟨j, e, h, z⟩
        · exact .inl z
        · exact .inr (.inl z)
        · exact .inr (.inr ⟨j, e, (wipeR_some h).1, z⟩)
      refine ⟨fun i m Hc => m = ds.length - i ∧ i ≤ ds.length ∧ ∃ acc xs ρc, Ev (F.more G) (D :: B) A (L2.wipe σ vs) Hc ρc ∧ TdSt Hc D xs acc ∧ RelTs F.K (Av F (D :: B) A ρc) Hc xs acc ∧ Gro (Ow A ρ) H Hc ∧ Lv (effi ++ (vs ++ (efft ++ (effk ++ effe)))) ρ ρc ∧ dcLT g mt mk mv vs (ds.drop i) acc ρc = some (res, ρ2),
        ⟨ds.length, by simp, Nat.zero_le _, [], [], wipeR ρ1 vs, E0, .inl ⟨rfl, rfl, upd_same⟩, .nil, P1.gro.trans (Ext.new hD).gro, (P1.lv.more fun i h => List.mem_append_left _ h).trans' (wipeR_lv.more fun i h => List.mem_append_right _ (List.mem_append_left _ h)), by rw [List.drop_zero]; exact e2⟩, ?_⟩
      rintro i m Hc ⟨rfl, hi, acc, xs, ρc, Ec, hDc, rc, gc, lc, hm⟩
      by_cases hlt : i < ds.length
      · refine .inr ⟨it.goes i _ Hc Ec.rootsG hlt, fun H' => ∃ acc xs ρc, Ev (F.more G) (D :: B) A (L2.wipe σ vs) H' ρc ∧ TdSt H' D xs acc ∧ RelTs F.K (Av F (D :: B) A ρc) H' xs acc ∧ Gro (Ow A ρ) H H' ∧ Lv (effi ++ (vs ++ (efft ++ (effk ++ effe)))) ρ ρc ∧ dcLT g mt mk mv vs (ds.drop (i + 1)) acc ρc = some (res, ρ2), fun H' q => ⟨ds.length - (i + 1), by omega, rfl, hlt, q⟩, fun x H' y => ?_⟩
        obtain ⟨ext, d, ed, rd⟩ := it.yields i _ Hc x H' Ec.rootsG Ec.less.occA hlt y
        rw [drop_cons' ed] at hm
        unfold dcLT at hm
        split at hm
        · cases hm
        · rename_i ρg eg
          refine ⟨G, D :: B, A, ρc, d, ρg, Ec.ext ext, rd, eg, fun σ2 H2 E2 g2 hw l2 => ⟨by rw [hw, wipe_wipe], ?_⟩⟩
          have hw2 : L2.wipe σ2 vs = L2.wipe σ vs := by rw [hw, wipe_wipe]
          have hD0 : H D = none := P1.gro.back hD
          have hD2 : TdSt H2 D xs acc := hDc.keep fun o e n => g2.keep _ _ (ext _ _ e) (fun z => z) n
          have ow1 : ∀ a, Ow A ρg a → Ow A ρ a := fun a z => lc.ow (l2.ow z)
          have gro2 : Gro (Ow A ρ) H H2 := gc.trans ((ext.gro).trans (g2.mono fun _ z => z.elim))
          have av1 : ∀ a, Av F (D :: B) A ρg a → Av F (D :: B) A ρc a := fun a z => l2.av z
          have rc2 : RelTs F.K (Av F (D :: B) A ρg) H2 xs acc := ((rc.ext ext).mono g2 (fun a z => z) fun _ z => z.elim).mono (C := fun _ => False) (Gro.refl _) av1 fun _ z => z.elim
          have lg : Lv (effi ++ (vs ++ (efft ++ (effk ++ effe)))) ρ ρg := lc.trans' (l2.more fun i h => List.mem_append_right _ (List.mem_append_left _ h))
          split at hm
          · rename_i ρt et
            refine ⟨G, D :: B, A, ρg, true, ρt, E2, et, fun H3 P3 => ?_⟩
            simp only [if_true]
            have hD3 : TdSt H3 D xs acc := hD2.keep fun o e n => P3.gro.keep _ _ e (E2.notOw List.mem_cons_self) n
            have rc3 : RelTs F.K (Av F (D :: B) A ρt) H3 xs acc := rc2.mono P3.gro (fun a z => P3.lv.av z) fun a z => .inr (.inr z)
            have lt : Lv (effi ++ (vs ++ (efft ++ (effk ++ effe)))) ρ ρt := lg.trans' (P3.lv.more fun i h => List.mem_append_right _ (List.mem_append_right _ (List.mem_append_left _ h)))
            split at hm
            · rename_i kd ρk ek
              refine ⟨G, D :: B, A, ρt, kd, ρk, P3.env, ek, fun kv Hk Pk rk => ?_⟩
              have hDk : TdSt Hk D xs acc := hD3.keep fun o e n => Pk.gro.keep _ _ e (P3.env.notOw List.mem_cons_self) n
              have rck : RelTs F.K (Av F (D :: B) A ρk) Hk xs acc := rc3.mono Pk.gro (fun a z => Pk.lv.av z) fun a z => .inr (.inr z)
              have lk : Lv (effi ++ (vs ++ (efft ++ (effk ++ effe)))) ρ ρk := lt.trans' (Pk.lv.more fun i h => List.mem_append_right _ (List.mem_append_right _ (List.mem_append_right _ (List.mem_append_left _ h))))
              split at hm
              · rename_i yd ρe ee
                split at hm
                · rename_i key hkey
                  split at hm
                  · rename_i hz
                    refine ⟨G, D :: B, A, ρk, yd, ρe, Pk.env, ee, fun yv H4 P4 r4 => ?_⟩
                    have hD4 : TdSt H4 D xs acc := hDk.keep fun o e n => P4.gro.keep _ _ e (Pk.env.notOw List.mem_cons_self) n
                    have rc4 : RelTs F.K (Av F (D :: B) A ρe) H4 xs acc := rck.mono P4.gro (fun a z => P4.lv.av z) fun a z => .inr (.inr z)
                    have e1 := keyT_some hkey
                    subst e1
                    have le : Lv (effi ++ (vs ++ (efft ++ (effk ++ effe)))) ρ ρe := lk.trans' (P4.lv.more fun i h => List.mem_append_right _ (List.mem_append_right _ (List.mem_append_right _ (List.mem_append_right _ h))))
                    have rk4 := ((rk.rr Pk.env).mono' P4.gro (fun a z => P4.lv.av z) fun a z => .inr (.inr z))
                    obtain ⟨b, rfl, hb⟩ := rk4.keyAt
                    refine ⟨Av F (D :: B) A ρe, xs, acc, key, b, hD4.st, rc4, rfl, hb, by rw [rc4.length]; exact hz, fun u ru => ?_⟩
                    have W : Gro (fun a => a = D) H4 (upd H4 D (.ext (TDict D (storedH xs key b u)))) := by
                      rcases hD4 with ⟨_, _, h⟩ | ⟨_, h⟩
                      · exact Gro.upd h fun ps z => nomatch z
                      · exact Gro.upd h fun ps z => nomatch z
                    refine ⟨dputT acc key yd, storedH xs key b u, wipeR ρe vs, ?_, .inr ⟨storedH_ne _ _ _ _, upd_same⟩, ?_, ?_, le.trans' (wipeR_lv.more fun i h => List.mem_append_right _ (List.mem_append_left _ h)), hm⟩
                    · have E5 := (P4.env.writeB List.mem_cons_self W).wipe (σ' := L2.wipe σ2 vs) (vs := vs) (wipe_length _ _) (fun i h => wipe_ne h) hv
                      rw [hw2] at E5
                      exact E5
                    · exact ((RelMk.mk (RelTs.put hb ru r4.plain rc4)).mono W (fun a z => wipeR_av (F := F) a z) fun a z => .inr (.inl (z ▸ List.mem_cons_self))).ts
                    · exact Gro.fresh (gro2.trans ((P3.gro.mono ow1).trans ((Pk.gro.mono fun a z => ow1 a (P3.lv.ow z)).trans (P4.gro.mono fun a z => ow1 a (P3.lv.ow (Pk.lv.ow z)))))) hD0 W
                  · cases hm
                · cases hm
              · cases hm
            · cases hm
          · rename_i ρt et
            refine ⟨G, D :: B, A, ρg, false, ρt, E2, et, fun H3 P3 => ?_⟩
            simp only [Bool.false_eq_true, if_false]
            have hD3 : TdSt H3 D xs acc := hD2.keep fun o e n => P3.gro.keep _ _ e (E2.notOw List.mem_cons_self) n
            have rc3 : RelTs F.K (Av F (D :: B) A ρt) H3 xs acc := rc2.mono P3.gro (fun a z => P3.lv.av z) fun a z => .inr (.inr z)
            have lt : Lv (effi ++ (vs ++ (efft ++ (effk ++ effe)))) ρ ρt := lg.trans' (P3.lv.more fun i h => List.mem_append_right _ (List.mem_append_right _ (List.mem_append_left _ h)))
            refine ⟨acc, xs, wipeR ρt vs, ?_, hD3, ?_, gro2.trans (P3.gro.mono ow1), lt.trans' (wipeR_lv.more fun i h => List.mem_append_right _ (List.mem_append_left _ h)), hm⟩
            · have E5 := P3.env.wipe (σ' := L2.wipe σ2 vs) (vs := vs) (wipe_length _ _) (fun i h => wipe_ne h) hv
              rw [hw2] at E5
              exact E5
            · exact rc3.mono (C := fun _ => False) (Gro.refl _) (fun a z => wipeR_av a z) fun _ z => z.elim
          · cases hm
      · have e : i = ds.length := by omega
        subst e
        rw [List.drop_length] at hm
        cases hm
        have Eb : Ev F (D :: B) A σ Hc (wipeR ρ2 vs) := Ec.less.wipe (wipe_length σ vs).symm (fun i h => (wipe_ne h).symm) hv
        exact .inl ⟨it.stops _ Hc Ec.rootsG, k D Hc ⟨Eb.unhide, gc, lc.trans' (wipeR_lv.more fun i h => List.mem_append_right _ (List.mem_append_left _ h))⟩ Eb (fun z => (P1.env.occB D z).1 hD) (hDc.rel (rc.mono (C := fun _ => False) (Gro.refl _) (fun a z => wipeR_av a z) fun _ z => z.elim))⟩
    · cases hm
  · cases hm
section
variable {kx vx iter : Expr} {ifs : List Expr} {scope : Scope} {own : List (Str × Nat)}
theorem pe_dcG {Put : DcG.PutR} {wi : TI} {g : TG} {tt : TT} {tk tv : TE} (hc : X.calm = true) (hN : X.N.Nodup) (hi : PI X tg iter wi) (ok : BlkOk X.N X.env.scope scope own) (P : DcG.Parts X tg ifs kx vx scope g tt tk tv Put) (hs : ∀ x, foldedSetIterable iter X.env x = pure x := by intro _; rfl) :
    PE X (.DictComp kx vx [⟨tg, iter, ifs, 0⟩] scope pos) (DcG.tDcG Put wi g tt tk tv (own.map (·.2))) := by
  refine ⟨fun pins s σ H Q I h => ?_⟩
  rw [arm_eval_DictComp]
  refine DcG.core hc hN I hi ok P hs h fun d C t m G It q hn f => ⟨m, hn, fun h2 sb => ?_⟩
  obtain ⟨f0, f1, f2, f3, f4, f5⟩ := f
  exact ⟨.ref d, G, It.turned (t' := t.toks) (fun b o hb e => (sb.2 b hb).trans e) f0 f1 f3 f4 f5, rfl, q⟩
theorem ps_setDcG {i : Nat} {y : Str} {py spos : Pos} {Put : DcG.PutR} {wi : TI} {g : TG} {tt : TT} {tk tv : TE} (hc : X.calm = true) (hN : X.N.Nodup) (hy : X.N[i]? = some y) (hyl : X.env.scope.names.lookup y = some .local)
    (hsw : swapsWith (.DictComp kx vx [⟨tg, iter, ifs, 0⟩] scope pos) (some (.Name y py)) spos.line X.env = pure true) (hi : PI X tg iter wi) (ok : BlkOk X.N X.env.scope scope own) (P : DcG.Parts X tg ifs kx vx scope g tt tk tv Put) (hs : ∀ x, foldedSetIterable iter X.env x = pure x := by intro _; rfl) :
    PS X (.Assign [.Name y py] (.DictComp kx vx [⟨tg, iter, ifs, 0⟩] scope pos) spos) (tAsg (DcG.tDcG Put wi g tt tk tv (own.map (·.2))) (gName i)) := by
  refine ⟨fun pins s σ H D I h => ?_⟩
  rw [exec_Assign_Name_used _ _ _ _ hsw]
  refine wpAny_bind (wpAny_standAt (wpAny_bind ?_))
  show wpAny _ X.A (do let _ ← comprehension (.DictComp kx vx [⟨tg, iter, ifs, 0⟩] scope pos) scope X.env (firstIterPos [⟨tg, iter, ifs, 0⟩] pos) newDict false (eval iter X.env) (some (assign (.Name y py) X.env))) _ _ s
  have h : DcG.tDcG Put wi g tt tk tv (own.map (·.2)) σ H (fun x H1 => gName i x σ H1 D.nx) := h
  refine wpAny_bind (thn (DcG.core (Qf := fun _ s' => SP X pins D .next s') hc hN I hi ok P hs h fun L C s' m H' I' q hn f => ?_) fun _ s' hq => wpAny_pure (wpAny_pure hq))
  show wpAny _ _ (assign (.Name y py) X.env (.ref L)) _ _ _
  refine wpAny_assign_Name (store_ok2 (v := V.ref L) I' hN hy (.inl hyl) rfl (fun s2 I2 ⟨a, sb, ha⟩ => ?_) (.inr hyl))
  obtain ⟨f0, f1, f2, f3, f4, f5⟩ := f
  have haC : C ≠ a := by
    rcases ha with z | z
    · rw [z]; exact f1
    · exact fun e => f4 y a z e.symm
  refine ⟨m, hn.sameBut sb haC, fun h3 sb3 => ?_⟩
  exact ⟨_, H', I2.turned (t' := s2.toks) (fun b o hb e => (sb3.2 b hb).trans e) f0 f1 f3 f4 f5, q⟩
theorem sown_dcT (i : Nat) {y : Str} {py spos : Pos} {mi : M (List D)} {g : D → Rho → Option Rho} {mt : M Bool} {mk mv : M D} {effi efft effk effe : List Nat} (hu : X.A.units < cLine) (hc : X.calm = true) (hN : X.N.Nodup) (hi : PI X tg iter (rdI F mi effi)) (ok : BlkOk X.N X.env.scope scope own)
    (hg : ∀ (s : Shared) (H : Hp) (C : Addr) (cl : List (Str × Addr)) (fp : List Addr) G, PG (X.blk s H scope (compEnvC scope cl C X.env) fp) tg (rdW (F.more G) (own.map (·.2)) g))
    (ht : ∀ (s : Shared) (H : Hp) (C : Addr) (cl : List (Str × Addr)) (fp : List Addr) G, PTs (X.blk s H scope (compEnvC scope cl C X.env) fp) ifs (rdT (F.more G) mt efft))
    (hk : ∀ (s : Shared) (H : Hp) (C : Addr) (cl : List (Str × Addr)) (fp : List Addr) G, PE (X.blk s H scope (compEnvC scope cl C X.env) fp) kx (rd (F.more G) mk [] effk))
    (he : ∀ (s : Shared) (H : Hp) (C : Addr) (cl : List (Str × Addr)) (fp : List Addr) G, PE (X.blk s H scope (compEnvC scope cl C X.env) fp) vx (rd (F.more G) mv [] effe))
    (hv : ∀ i ∈ own.map (·.2), i ∉ F.io) (hK : X.K = F.K := by rfl) (hy : X.N[i]? = some y := by rfl) (hyl : X.env.scope.names.lookup y = some .local := by rfl) (hio : (!decide (i ∈ F.io)) = true := by rfl)
    (hsw : swapsWith (.DictComp kx vx [⟨tg, iter, ifs, 0⟩] scope pos) (some (.Name y py)) spos.line X.env = pure true := by exact sw_trueD rfl rfl rfl (by decide +kernel)) (hs : ∀ x, foldedSetIterable iter X.env x = pure x := by intro _; rfl) :
    PS X (.Assign [.Name y py] (.DictComp kx vx [⟨tg, iter, ifs, 0⟩] scope pos) spos) (rdS F (mAsg (mDcT mi g mt mk mv (own.map (·.2))) (gOwn i))) :=
  PS.mono (ps_setDcG (Put := PutT F.K) hc hN hy hyl hsw hi ok ⟨fun s H C cl fp => PG.exW (hg s H C cl fp), fun s H C cl fp => PTs.ex (ht s H C cl fp), fun s H C cl fp => PE.ex (hk s H C cl fp), fun s H C cl fp => PE.ex (he s H C cl fp), fun s H C cl fp => putT_put hK hu⟩ hs) fun Dn σ H h => by
    refine rd_dcT hv ?_
    obtain ⟨A, ρ, out, E, hm, k⟩ := h
    unfold mAsg at hm
    split at hm
    · rename_i d ρ1 q
      unfold gOwn at hm
      by_cases hl : i < ρ1.length
      · simp only [if_pos hl] at hm
        cases hm
        exact ⟨[], A, ρ, d, ρ1, E, q, fun p H' P E' hp r' => k _ _ H' (E'.setOwn (nio hio) hl r' hp)⟩
      · simp only [if_neg hl] at hm
        cases hm
    · cases hm
end
/-! ### list + list as a new thing -/
def gAddN : D → D → Option D
  | .list a, .list b => if a.length + b.length ≤ sizeLine then some (.list (a ++ b)) else none
  | _, _ => none
theorem x_addN {a b : Expr} {m1 m2 : M D} {dep1 eff1 dep2 eff2 : List Nat} (ha : PE X a (rd F m1 dep1 eff1)) (hb : PE X b (rd F m2 dep2 eff2)) (hd : ∀ i ∈ dep1, i ∉ eff2 := by decide) (hK : X.K = F.K := by rfl) : PE X (.BinOp a .Add b pos) (rdN F (mBin gAddN m1 m2) (eff1 ++ eff2)) := by
  refine PE.mono (pe_op op_catL ha hb) fun σ H Q ⟨B, A, ρ, d, ρ2, E, hm, k⟩ => ?_
  obtain ⟨d1, ρ1, d2, e1, e2, e3⟩ := mBin_some hm
  refine ⟨B, A, ρ, d1, ρ1, E, e1, fun v1 H1 P1 r1 => ⟨B, A, ρ1, d2, ρ2, P1.env, e2, fun v2 H2 P2 r2 => ?_⟩⟩
  unfold gAddN at e3
  split at e3
  · split at e3
    · rename_i hl
      cases e3
      obtain ⟨pa, xs, rfl, h1, q1⟩ := ((r1.later P2.gro P2.lv hd).rr P2.env).list
      obtain ⟨pb, ys, rfl, h2, q2⟩ := (r2.rr P2.env).list
      rw [← hK] at h1 h2
      refine ⟨pa, pb, xs, ys, rfl, rfl, h1, h2, by rw [q1.length, q2.length]; exact hl, fun p hp => ?_⟩
      exact rdN_lay (P1.trans P2) k hp (Ext.new hp) ⟨xs ++ ys, upd_same, ((q1.append q2).away hp av_cons).ext (Ext.new hp)⟩
    · cases e3
  · cases e3
end
end PD

set_option Elab.async false
set_option linter.all false
set_option maxRecDepth 100000
set_option maxHeartbeats 2000000
/-! WP: how the pure meanings are run: Wp o Q says that o ends and Q holds of its end. -/
namespace PD
open PySem PySem.Spec PyProof.Rows L2 GxR GenX OwnK
/-- a tag: keeps simp out of b -/
class Tg {β : Sort u} (b : β) : Type where
instance (priority := high) instTg {β : Sort u} {b : β} : Tg b := ⟨⟩
def Wp {α : Type} (o : Option α) (Q : α → Prop) [Tg Q] : Prop := ∃ a, o = some a ∧ Q a
def bcs (b : Bool) (p q : Prop) [Tg p] [Tg q] : Prop := (b = true → p) ∧ (b = false → q)
/-- what a sequence asks of its first part -/
def seqQ (K : Rho → Prop) (Q : Out → Prop) [Tg K] [Tg Q] : Out → Prop
  | .nx ρ => K ρ
  | o => Q o
/-- what a loop asks of its body -/
def forQ (I : Rho → Prop) (Q : Out → Prop) [Tg I] [Tg Q] : Out → Prop
  | .nx ρ => I ρ
  | .ct ρ => I ρ
  | .bk ρ => Q (.nx ρ)
  | .rt v ρ => Q (.rt v ρ)
def runQ (n : Nat) (Q : D × List D → Prop) [Tg Q] : Out → Prop
  | .rt d ρ => Q (d, backR ρ n)
  | .nx ρ => Q (.none, backR ρ n)
  | _ => False
def runQN (n : Nat) (Q : D × List D → Prop) [Tg Q] : Out → Prop
  | .rt d ρ => Q (d, backR ρ n)
  | _ => False
section
variable {α β : Type} {Q : α → Prop} {ρ : Rho}
theorem Wp.mono {o : Option α} {Q Q' : α → Prop} (h : Wp o Q) (k : ∀ a, Q a → Q' a) : Wp o Q' := let ⟨a, e, q⟩ := h; ⟨a, e, k a q⟩
theorem W_some {a : α} : Wp (some a) Q ↔ Q a := ⟨fun ⟨b, e, q⟩ => by cases e; exact q, fun q => ⟨a, rfl, q⟩⟩
theorem W_none : Wp (none : Option α) Q ↔ False := ⟨fun ⟨b, e, q⟩ => (nomatch e), fun z => z.elim⟩
theorem W_ite {c : Prop} [Decidable c] {a b : Option α} : Wp (if c then a else b) Q ↔ (c → Wp a Q) ∧ (¬ c → Wp b Q) := by
  by_cases h : c <;> simp [h]
theorem W_map {o : Option β} {f : β → α} : Wp (o.map f) Q ↔ Wp o fun b => Q (f b) := by
  cases o with
  | none => exact ⟨fun h => (W_none.mp h).elim, fun h => (W_none.mp h).elim⟩
  | some b => exact ⟨fun h => W_some.mpr ((W_some (a := f b)).mp h), fun h => W_some.mpr ((W_some (a := b) (Q := fun b => Q (f b))).mp h)⟩
theorem W_bind {o : Option β} {f : β → Option α} : Wp (o.bind f) Q ↔ Wp o fun b => Wp (f b) Q := by
  cases o with
  | none => exact ⟨fun h => (W_none.mp h).elim, fun h => (W_none.mp h).elim⟩
  | some b => exact ⟨fun h => W_some.mpr h, fun h => (W_some (a := b) (Q := fun b => Wp (f b) Q)).mp h⟩
theorem bcs_true {p q : Prop} : bcs true p q ↔ p := by simp [bcs]
theorem bcs_false {p q : Prop} : bcs false p q ↔ q := by simp [bcs]
theorem bcs_dec {c : Prop} [Decidable c] {p q : Prop} : bcs (decide c) p q ↔ (c → p) ∧ (¬ c → q) := by simp [bcs]
theorem bcs_not {b : Bool} {p q : Prop} : bcs (!b) p q ↔ bcs b q p := by cases b <;> simp [bcs]
theorem seqQ_nx {K : Rho → Prop} {Q : Out → Prop} : seqQ K Q (.nx ρ) ↔ K ρ := Iff.rfl
theorem seqQ_rt {K : Rho → Prop} {Q : Out → Prop} {d : D} : seqQ K Q (.rt d ρ) ↔ Q (.rt d ρ) := Iff.rfl
theorem seqQ_bk {K : Rho → Prop} {Q : Out → Prop} : seqQ K Q (.bk ρ) ↔ Q (.bk ρ) := Iff.rfl
theorem seqQ_ct {K : Rho → Prop} {Q : Out → Prop} : seqQ K Q (.ct ρ) ↔ Q (.ct ρ) := Iff.rfl
theorem forQ_nx {K : Rho → Prop} {Q : Out → Prop} : forQ K Q (.nx ρ) ↔ K ρ := Iff.rfl
theorem forQ_rt {K : Rho → Prop} {Q : Out → Prop} {d : D} : forQ K Q (.rt d ρ) ↔ Q (.rt d ρ) := Iff.rfl
theorem forQ_bk {K : Rho → Prop} {Q : Out → Prop} : forQ K Q (.bk ρ) ↔ Q (.nx ρ) := Iff.rfl
theorem forQ_ct {K : Rho → Prop} {Q : Out → Prop} : forQ K Q (.ct ρ) ↔ K ρ := Iff.rfl
theorem runQ_nx {n : Nat} {Q : D × List D → Prop} : runQ n Q (.nx ρ) ↔ Q (.none, backR ρ n) := Iff.rfl
theorem runQ_rt {n : Nat} {Q : D × List D → Prop} {d : D} : runQ n Q (.rt d ρ) ↔ Q (d, backR ρ n) := Iff.rfl
theorem runQN_rt {n : Nat} {Q : D × List D → Prop} {d : D} : runQN n Q (.rt d ρ) ↔ Q (d, backR ρ n) := Iff.rfl
end
section
variable {Q : D × Rho → Prop} {QB : Bool × Rho → Prop} {QL : List D × Rho → Prop} {QS : Out → Prop} {QO : Option Int × Rho → Prop} {ρ : Rho}
theorem W_runD {n : Nat} {io : List Nat} {mb : MS} {ds : List D} {Q : D × List D → Prop} : Wp (runD n io mb ds) Q ↔ Wp (mb (startR io n ds)) (runQ ds.length Q) := by
  unfold runD
  cases mb (startR io n ds) with
  | none => exact ⟨fun h => (W_none.mp h).elim, fun h => (W_none.mp h).elim⟩
  | some o => cases o <;> (simp only [W_some, W_none] <;> simp [runQ])
theorem W_runN {n : Nat} {io : List Nat} {mb : MS} {ds : List D} {Q : D × List D → Prop} : Wp (runN n io mb ds) Q ↔ Wp (mb (startR io n ds)) (runQN ds.length Q) := by
  unfold runN
  cases mb (startR io n ds) with
  | none => exact ⟨fun h => (W_none.mp h).elim, fun h => (W_none.mp h).elim⟩
  | some o => cases o <;> (simp only [W_some, W_none] <;> simp [runQN])
theorem mFrz_eq {i : Nat} : mFrz i ρ = match ρ[i]? with | some (some (_, d)) => some (d, ρ.set i (some (false, d))) | _ => none := by
  unfold mFrz
  split
  · rename_i d e; rw [e]
  · rename_i d e
    rw [e]
    have : ρ.set i (some (false, d)) = ρ := by
      apply List.ext_getElem?
      intro j
      rw [List.getElem?_set]
      split
      · rename_i h; subst h
        obtain ⟨h1, h2⟩ := List.getElem?_eq_some_iff.mp e
        simp [h1, h2, e]
      · rfl
    simp only [this]
  · rename_i h1 h2
    split
    · rename_i b d e
      cases b with
      | true => exact absurd e (h1 d)
      | false => exact absurd e (h2 d)
    · rfl
theorem W_bin {g : D → D → Option D} {m1 m2 : M D} : Wp (mBin g m1 m2 ρ) Q ↔ Wp (m1 ρ) fun r1 => Wp (m2 r1.2) fun r2 => Wp (g r1.1 r2.1) fun d => Q (d, r2.2) := by
  unfold mBin
  cases m1 ρ with
  | none => simp [W_none]
  | some r1 =>
    simp only [W_some]
    cases m2 r1.2 with
    | none => simp [W_none]
    | some r2 =>
      simp only [W_some]
      cases g r1.1 r2.1 <;> simp [W_some, W_none]
theorem W_nil : Wp (mNil ρ) QL ↔ QL ([], ρ) := W_some
theorem W_cons {m : M D} {ms : M (List D)} : Wp (mCons m ms ρ) QL ↔ Wp (m ρ) fun r1 => Wp (ms r1.2) fun r2 => QL (r1.1 :: r2.1, r2.2) := by
  unfold mCons
  cases m ρ with
  | none => simp [W_none]
  | some r1 =>
    simp only [W_some]
    cases ms r1.2 <;> simp [W_some, W_none]
theorem W_app {g : List D → Option D} {m : M (List D)} : Wp (mApp g m ρ) Q ↔ Wp (m ρ) fun r => Wp (g r.1) fun d => Q (d, r.2) := by
  unfold mApp
  cases m ρ with
  | none => simp [W_none]
  | some r1 =>
    simp only [W_some]
    cases g r1.1 <;> simp [W_some, W_none]
theorem W_un {g : D → Option D} {m : M D} : Wp (mUn g m ρ) Q ↔ Wp (m ρ) fun r => Wp (g r.1) fun d => Q (d, r.2) := by
  unfold mUn
  cases m ρ with
  | none => simp [W_none]
  | some r1 =>
    simp only [W_some]
    cases g r1.1 <;> simp [W_some, W_none]
/-- the data is a bool -/
def boolQ (K : Bool → Prop) [Tg K] : D → Prop
  | .bool b => K b
  | _ => False
theorem boolQ_bool {K : Bool → Prop} {b : Bool} : boolQ K (.bool b) ↔ K b := Iff.rfl
def intQ (K : Int → Prop) [Tg K] : D → Prop
  | .int b => K b
  | _ => False
theorem intQ_int {K : Int → Prop} {b : Int} : intQ K (.int b) ↔ K b := Iff.rfl
theorem W_mB {m : M D} : Wp (mB m ρ) QB ↔ Wp (m ρ) fun r => boolQ (fun b => QB (b, r.2)) r.1 := by
  unfold mB
  cases m ρ with
  | none => simp [W_none]
  | some r1 =>
    obtain ⟨d, ρ1⟩ := r1
    cases d <;> (simp only [W_some, W_none] <;> simp [boolQ])
theorem W_andT {m1 m2 : M Bool} : Wp (mAndT m1 m2 ρ) QB ↔ Wp (m1 ρ) fun r => bcs r.1 (Wp (m2 r.2) QB) (QB (false, r.2)) := by
  unfold mAndT
  cases m1 ρ with
  | none => simp [W_none]
  | some r1 =>
    obtain ⟨b, ρ1⟩ := r1
    cases b <;> (simp only [W_some] <;> simp [bcs])
theorem W_orT {m1 m2 : M Bool} : Wp (mOrT m1 m2 ρ) QB ↔ Wp (m1 ρ) fun r => bcs r.1 (QB (true, r.2)) (Wp (m2 r.2) QB) := by
  unfold mOrT
  cases m1 ρ with
  | none => simp [W_none]
  | some r1 =>
    obtain ⟨b, ρ1⟩ := r1
    cases b <;> (simp only [W_some] <;> simp [bcs])
theorem W_notT {m1 : M Bool} : Wp (mNotT m1 ρ) QB ↔ Wp (m1 ρ) fun r => QB (!r.1, r.2) := by
  unfold mNotT
  cases m1 ρ with
  | none => simp [W_none]
  | some r1 => simp [W_some]
theorem W_andV {m1 m2 : M D} : Wp (mAndV m1 m2 ρ) Q ↔ Wp (m1 ρ) fun r => boolQ (fun b => bcs b (Wp (m2 r.2) Q) (Q (.bool false, r.2))) r.1 := by
  unfold mAndV
  cases m1 ρ with
  | none => simp [W_none]
  | some r1 =>
    obtain ⟨d, ρ1⟩ := r1
    cases d with
    | bool b => cases b <;> (simp only [W_some, W_none] <;> simp [boolQ, bcs])
    | _ => (simp only [W_some, W_none] <;> simp [boolQ])
theorem W_orV {m1 m2 : M D} : Wp (mOrV m1 m2 ρ) Q ↔ Wp (m1 ρ) fun r => boolQ (fun b => bcs b (Q (.bool true, r.2)) (Wp (m2 r.2) Q)) r.1 := by
  unfold mOrV
  cases m1 ρ with
  | none => simp [W_none]
  | some r1 =>
    obtain ⟨d, ρ1⟩ := r1
    cases d with
    | bool b => cases b <;> (simp only [W_some, W_none] <;> simp [boolQ, bcs])
    | _ => (simp only [W_some, W_none] <;> simp [boolQ])
theorem W_notV {m1 : M D} : Wp (mNotV m1 ρ) Q ↔ Wp (m1 ρ) fun r => boolQ (fun b => Q (.bool (!b), r.2)) r.1 := by
  unfold mNotV
  cases m1 ρ with
  | none => simp [W_none]
  | some r1 =>
    obtain ⟨d, ρ1⟩ := r1
    cases d <;> (simp only [W_some, W_none] <;> simp [boolQ])
theorem W_if {c : M Bool} {m1 m2 : M D} : Wp (mIf c m1 m2 ρ) Q ↔ Wp (c ρ) fun r => bcs r.1 (Wp (m1 r.2) Q) (Wp (m2 r.2) Q) := by
  unfold mIf
  cases c ρ with
  | none => simp [W_none]
  | some r1 =>
    obtain ⟨b, ρ1⟩ := r1
    cases b <;> (simp only [W_some] <;> simp [bcs])
theorem W_mP {m : M D} : Wp (mP m ρ) QO ↔ Wp (m ρ) fun r => intQ (fun i => QO (some i, r.2)) r.1 := by
  unfold mP
  cases m ρ with
  | none => simp [W_none]
  | some r1 =>
    obtain ⟨d, ρ1⟩ := r1
    cases d <;> (simp only [W_some, W_none] <;> simp [intQ])
theorem W_noP : Wp (mNoP ρ) QO ↔ QO (none, ρ) := W_some
theorem W_sl {m : M D} {ml mh : M (Option Int)} : Wp (mSl m ml mh ρ) Q ↔ Wp (m ρ) fun r => Wp (ml r.2) fun l => Wp (mh l.2) fun h => Wp (gSl l.1 h.1 r.1) fun d => Q (d, h.2) := by
  unfold mSl
  cases m ρ with
  | none => simp [W_none]
  | some r1 =>
    simp only [W_some]
    cases ml r1.2 with
    | none => simp [W_none]
    | some r2 =>
      simp only [W_some]
      cases mh r2.2 with
      | none => simp [W_none]
      | some r3 =>
        simp only [W_some]
        cases gSl r2.1 r3.1 r1.1 <;> simp [W_some, W_none]
theorem W_items {m : M D} : Wp (mItems m ρ) QL ↔ Wp (m ρ) fun r => Wp (gItems r.1) fun d => QL (d, r.2) := by
  unfold mItems
  cases m ρ with
  | none => simp [W_none]
  | some r1 =>
    simp only [W_some]
    cases gItems r1.1 <;> simp [W_some, W_none]
theorem W_range {g : List D → Option (List D)} {m : M (List D)} : Wp (mRange g m ρ) QL ↔ Wp (m ρ) fun r => Wp (g r.1) fun d => QL (d, r.2) := by
  unfold mRange
  cases m ρ with
  | none => simp [W_none]
  | some r1 =>
    simp only [W_some]
    cases g r1.1 <;> simp [W_some, W_none]
theorem W_chain {g g' : D → D → Option D} {ma mb mc : M D} : Wp (mChain g g' ma mb mc ρ) Q ↔ Wp (ma ρ) fun a => Wp (mb a.2) fun b => Wp (g a.1 b.1) fun t => boolQ (fun z => bcs z (Wp (mc b.2) fun c => Wp (g' b.1 c.1) fun d => Q (d, c.2)) (Q (.bool false, b.2))) t := by
  unfold mChain
  cases ma ρ with
  | none => simp [W_none]
  | some a =>
    simp only [W_some]
    cases mb a.2 with
    | none => simp [W_none]
    | some b =>
      simp only [W_some]
      cases g a.1 b.1 with
      | none => simp [W_none]
      | some t =>
        simp only [W_some]
        cases t with
        | bool z =>
          cases z with
          | false => (simp only [W_some] <;> simp [boolQ, bcs])
          | true =>
            simp only [boolQ, bcs_true]
            cases mc b.2 with
            | none => simp [W_none]
            | some c =>
              simp only [W_some]
              cases g' b.1 c.1 <;> simp [W_some, W_none]
        | _ => (simp only [W_none] <;> simp [boolQ])
theorem W_seq {m1 m2 : MS} : Wp (mSeq m1 m2 ρ) QS ↔ Wp (m1 ρ) (seqQ (fun ρ1 => Wp (m2 ρ1) QS) QS) := by
  unfold mSeq
  cases m1 ρ with
  | none => simp [W_none]
  | some o => cases o <;> (simp only [W_some] <;> simp [seqQ])
theorem W_next : Wp (mNext ρ) QS ↔ QS (.nx ρ) := W_some
theorem W_break : Wp (mBreak ρ) QS ↔ QS (.bk ρ) := W_some
theorem W_cont : Wp (mCont ρ) QS ↔ QS (.ct ρ) := W_some
theorem W_ret {m : M D} : Wp (mRet m ρ) QS ↔ Wp (m ρ) fun r => QS (.rt r.1 r.2) := W_map
theorem W_drop {m : M D} : Wp (mDrop m ρ) QS ↔ Wp (m ρ) fun r => QS (.nx r.2) := W_map
theorem W_ifS {c : M Bool} {m1 m2 : MS} : Wp (mIfS c m1 m2 ρ) QS ↔ Wp (c ρ) fun r => bcs r.1 (Wp (m1 r.2) QS) (Wp (m2 r.2) QS) := by
  unfold mIfS
  cases c ρ with
  | none => simp [W_none]
  | some r1 =>
    obtain ⟨b, ρ1⟩ := r1
    cases b <;> (simp only [W_some] <;> simp [bcs])
theorem W_asg {m : M D} {g : D → Rho → Option Rho} : Wp (mAsg m g ρ) QS ↔ Wp (m ρ) fun r => Wp (g r.1 r.2) fun ρ1 => QS (.nx ρ1) := by
  unfold mAsg
  cases m ρ with
  | none => simp [W_none]
  | some r1 => simp only [W_some]; exact W_map
theorem W_par {i j : Nat} {m : M (List D)} : Wp (mPar i j m ρ) QS ↔ Wp (m ρ) fun r => ∃ a b, r.1 = [a, b] ∧ i < r.2.length ∧ j < r.2.length ∧ QS (.nx ((r.2.set i (some (false, a))).set j (some (false, b)))) := by
  unfold mPar
  cases m ρ with
  | none => simp [W_none]
  | some r1 =>
    obtain ⟨ds, ρ1⟩ := r1
    simp only [W_some]
    match ds with
    | [] => simp [W_none]
    | [a] => simp [W_none]
    | [a, b] =>
      simp only [W_ite, W_some, W_none]
      constructor
      · intro ⟨h1, h2⟩
        by_cases h : i < ρ1.length ∧ j < ρ1.length
        · exact ⟨a, b, rfl, h.1, h.2, h1 h⟩
        · exact (h2 h).elim
      · intro ⟨a', b', e, h1, h2, h3⟩
        cases e
        exact ⟨fun _ => h3, fun h => (h ⟨h1, h2⟩).elim⟩
    | a :: b :: c :: r => simp [W_none]
/-- the slot holds an owned thing -/
def ownQ (K : D → Prop) [Tg K] : Option (Option (Bool × D)) → Prop
  | some (some (true, o)) => K o
  | _ => False
def borQ (K : D → Prop) [Tg K] : Option (Option (Bool × D)) → Prop
  | some (some (false, o)) => K o
  | _ => False
theorem ownQ_true {K : D → Prop} {o : D} : ownQ K (some (some (true, o))) ↔ K o := Iff.rfl
theorem borQ_false {K : D → Prop} {o : D} : borQ K (some (some (false, o))) ↔ K o := Iff.rfl
theorem W_put {i : Nat} {mk mv : M D} : Wp (mPut i mk mv ρ) QS ↔ Wp (mv ρ) fun v => ownQ (fun o => Wp (mk v.2) fun k => Wp (gPut o k.1 v.1) fun o' => QS (.nx (k.2.set i (some (true, o'))))) (v.2[i]?) := by
  unfold mPut
  cases mv ρ with
  | none => simp [W_none]
  | some v =>
    simp only [W_some]
    split
    · rename_i o e
      rw [e]
      simp only [ownQ]
      cases mk v.2 with
      | none => simp [W_none]
      | some k =>
        simp only [W_some]
        cases gPut o k.1 v.1 <;> simp [W_some, W_none]
    · rename_i h
      unfold ownQ
      split
      · rename_i o e; exact absurd e (h o)
      · simp [W_none]
theorem W_aug {i : Nat} {g : D → D → Option D} {m : M D} : Wp (mAug i g m ρ) QS ↔ borQ (fun x => Wp (m ρ) fun r => Wp (g x r.1) fun d => i < r.2.length ∧ QS (.nx (r.2.set i (some (false, d))))) (ρ[i]?) := by
  unfold mAug
  split
  · rename_i x e
    rw [e]
    simp only [borQ]
    cases m ρ with
    | none => simp [W_none]
    | some r =>
      simp only [W_some]
      cases g x r.1 with
      | none => simp [W_none]
      | some d => simp only [W_some, W_ite, W_none]; by_cases h : i < r.2.length <;> simp [h]
  · rename_i h
    unfold borQ
    split
    · rename_i o e; exact absurd e (h o)
    · simp [W_none]
theorem W_augL {i : Nat} {g : D → D → Option D} {mk me : M D} : Wp (mAugL i g mk me ρ) QS ↔ ownQ (fun o => Wp (mk ρ) fun k => Wp (gIxL o k.1) fun x => Wp (me k.2) fun r => Wp (g x r.1) fun d => Wp (gPut o k.1 d) fun o' => QS (.nx (r.2.set i (some (true, o'))))) (ρ[i]?) := by
  unfold mAugL
  split
  · rename_i x e
    rw [e]
    simp only [ownQ]
    cases mk ρ with
    | none => simp [W_none]
    | some k =>
      simp only [W_some]
      cases gIxL x k.1 with
      | none => simp [W_none]
      | some d =>
        simp only [W_some]
        cases me k.2 with
        | none => simp [W_none]
        | some r =>
          simp only [W_some]
          cases g d r.1 with
          | none => simp [W_none]
          | some z =>
            simp only [W_some]
            cases gPut x k.1 z <;> simp [W_some, W_none]
  · rename_i h
    unfold ownQ
    split
    · rename_i o e; exact absurd e (h o)
    · simp [W_none]
theorem W_mut {i : Nat} {g : D → D → Option (D × D)} {m : M D} : Wp (mMut i g m ρ) Q ↔ ownQ (fun o => Wp (m ρ) fun r => Wp (g o r.1) fun z => Q (z.1, r.2.set i (some (true, z.2)))) (ρ[i]?) := by
  unfold mMut
  split
  · rename_i x e
    rw [e]
    simp only [ownQ]
    cases m ρ with
    | none => simp [W_none]
    | some k =>
      simp only [W_some]
      cases g x k.1 <;> simp [W_some, W_none]
  · rename_i h
    unfold ownQ
    split
    · rename_i o e; exact absurd e (h o)
    · simp [W_none]
theorem W_call {f : List D → Option (D × List D)} {ts : List (Option Nat)} {m : M (List D)} : Wp (mCall f ts m ρ) Q ↔ Wp (m ρ) fun r => Wp (f r.1) fun q => q.2.length = r.1.length ∧ Q (q.1, putBack ts q.2 r.2) := by
  unfold mCall
  cases m ρ with
  | none => simp [W_none]
  | some r =>
    simp only [W_some]
    cases f r.1 with
    | none => simp [W_none]
    | some q =>
      simp only [W_some]
      by_cases h : q.2.length = r.1.length
      · rw [if_pos h]; simp only [W_some]; exact ⟨fun z => ⟨h, z⟩, fun z => z.2⟩
      · rw [if_neg h]; simp only [W_none]; exact ⟨fun z => z.elim, fun z => h z.1⟩
theorem W_callK {f : List D → Option (D × List D)} {ga : List D → List D} {m : M (List D)} : Wp (mCallK f ga m ρ) Q ↔ Wp (m ρ) fun r => Wp (f (ga r.1)) fun q => Q (q.1, r.2) := by
  unfold mCallK
  cases m ρ with
  | none => simp [W_none]
  | some r =>
    simp only [W_some]
    cases f (ga r.1) <;> simp [W_some, W_none]
def strQ (K : Str → Prop) [Tg K] : D → Prop
  | .str z => K z
  | _ => False
theorem strQ_str {K : Str → Prop} {z : Str} : strQ K (.str z) ↔ K z := Iff.rfl
theorem W_tab {tbl : List (Str × (List D → Option (D × List D)))} {ts : List (Option Nat)} {mk : M D} {m : M (List D)} : Wp (mTab tbl ts mk m ρ) Q ↔ Wp (mk ρ) fun k => strQ (fun z => Wp (tbl.lookup z) fun fn => Wp (mCall fn ts m k.2) Q) k.1 := by
  unfold mTab
  cases mk ρ with
  | none => simp [W_none]
  | some k =>
    obtain ⟨d, ρ1⟩ := k
    cases d with
    | str z =>
      simp only [W_some]
      show _ ↔ Wp (tbl.lookup z) fun fn => Wp (mCall fn ts m ρ1) Q
      cases tbl.lookup z <;> simp [W_some, W_none]
    | _ => (simp only [W_some, W_none] <;> simp [strQ])
theorem W_consIo {i : Nat} {ms : M (List D)} : Wp (mConsIo i ms ρ) QL ↔ ownQ (fun _ => Wp (ms ρ) fun r => ownQ (fun d => QL (d :: r.1, r.2)) (r.2[i]?)) (ρ[i]?) := by
  unfold mConsIo
  split
  · rename_i x e
    rw [e]
    simp only [ownQ_true]
    cases ms ρ with
    | none => simp [W_none]
    | some r =>
      simp only [W_some]
      cases h : r.2[i]? with
      | none => simp only [W_none]; exact Iff.rfl
      | some z =>
        match z with
        | none => simp only [W_none]; exact Iff.rfl
        | some (true, d) => simp only [W_some]; exact Iff.rfl
        | some (false, d) => simp only [W_none]; exact Iff.rfl
  · rename_i h
    unfold ownQ
    split
    · rename_i o e; exact absurd e (h o)
    · simp [W_none]
def dictQ (K : List (D × D) → Prop) [Tg K] : D → Prop
  | .dict z => K z
  | _ => False
theorem dictQ_dict {K : List (D × D) → Prop} {z : List (D × D)} : dictQ K (.dict z) ↔ K z := Iff.rfl
theorem W_get2 {m1 m2 m3 : M D} : Wp (mGet2 m1 m2 m3 ρ) Q ↔ Wp (m1 ρ) fun a => dictQ (fun kvs => Wp (m2 a.2) fun b => Wp (m3 b.2) fun c => Wp (keyD b.1) fun k => isT kvs = false ∧ Q ((dget kvs k).getD c.1, c.2)) a.1 := by
  unfold mGet2
  cases m1 ρ with
  | none => simp [W_none]
  | some a =>
    obtain ⟨d, ρ1⟩ := a
    cases d with
    | dict z =>
      simp only [W_some]
      show _ ↔ Wp (m2 ρ1) fun b => Wp (m3 b.2) fun c => Wp (keyD b.1) fun k => isT z = false ∧ Q ((dget z k).getD c.1, c.2)
      cases m2 ρ1 with
      | none => simp [W_none]
      | some b =>
        simp only [W_some]
        cases m3 b.2 with
        | none => simp [W_none]
        | some c =>
          simp only [W_some]
          cases keyD b.1 <;> cases isT z <;> simp [W_some, W_none]
    | _ => (simp only [W_some, W_none] <;> simp [dictQ])
theorem W_for {mi : M (List D)} {g : D → Rho → Option Rho} {mb : MS} : Wp (mFor mi g mb ρ) QS ↔ Wp (mi ρ) fun r => Wp (mForL g mb r.1 r.2) QS := by
  unfold mFor
  cases mi ρ <;> simp [W_some, W_none]
theorem W_lc {mi : M (List D)} {g : D → Rho → Option Rho} {mt : M Bool} {me : M D} {vs : List Nat} : Wp (mLc mi g mt me vs ρ) Q ↔ Wp (mi ρ) fun r => Wp (lcL g mt me vs r.1 [] (wipeR r.2 vs)) fun s => Q (.list s.1, wipeR s.2 vs) := by
  unfold mLc
  cases mi ρ with
  | none => simp [W_none]
  | some r =>
    simp only [W_some]
    cases lcL g mt me vs r.1 [] (wipeR r.2 vs) <;> simp [W_some, W_none]
theorem W_dc {mi : M (List D)} {g : D → Rho → Option Rho} {mt : M Bool} {mk mv : M D} {vs : List Nat} : Wp (mDc mi g mt mk mv vs ρ) Q ↔ Wp (mi ρ) fun r => Wp (dcL g mt mk mv vs r.1 [] (wipeR r.2 vs)) fun s => Q (.dict s.1, wipeR s.2 vs) := by
  unfold mDc
  cases mi ρ with
  | none => simp [W_none]
  | some r =>
    simp only [W_some]
    cases dcL g mt mk mv vs r.1 [] (wipeR r.2 vs) <;> simp [W_some, W_none]
theorem W_an {k : Bool} {mi : M (List D)} {g : D → Rho → Option Rho} {mt : M Bool} {me : M D} {vs : List Nat} : Wp (mAn k mi g mt me vs ρ) Q ↔ Wp (mi ρ) fun r => Wp (anL k g mt me vs r.1 (wipeR r.2 vs)) fun s => Q (.bool s.1, wipeR s.2 vs) := by
  unfold mAn
  cases mi ρ with
  | none => simp [W_none]
  | some r =>
    simp only [W_some]
    cases anL k g mt me vs r.1 (wipeR r.2 vs) <;> simp [W_some, W_none]
theorem W_su {mi : M (List D)} {g : D → Rho → Option Rho} {mt : M Bool} {me : M D} {vs : List Nat} : Wp (mSu mi g mt me vs ρ) Q ↔ Wp (mi ρ) fun r => Wp (suL g mt me vs r.1 0 (wipeR r.2 vs)) fun s => Q (.int s.1, wipeR s.2 vs) := by
  unfold mSu
  cases mi ρ with
  | none => simp [W_none]
  | some r =>
    simp only [W_some]
    cases suL g mt me vs r.1 0 (wipeR r.2 vs) <;> simp [W_some, W_none]
theorem W_mC {d : D} : Wp (mC d ρ) Q ↔ Q (d, ρ) := W_some
end
/-! ### loops -/
section
variable {g : D → Rho → Option Rho} {mb : MS} {mt : M Bool} {me mk mv : M D} {vs : List Nat}
theorem W_forL {Q : Out → Prop} : ∀ (ds : List D) (I : Nat → Rho → Prop) (k0 : Nat) (ρ : Rho), I k0 ρ → (∀ k d ρ, ds[k]? = some d → I (k0 + k) ρ → Wp (g d ρ) fun ρ1 => Wp (mb ρ1) (forQ (I (k0 + k + 1)) Q)) → (∀ ρ, I (k0 + ds.length) ρ → Q (.nx ρ)) → Wp (mForL g mb ds ρ) Q
  | [], I, k0, ρ, h0, hs, hq => W_some.mpr (hq ρ h0)
  | d :: r, I, k0, ρ, h0, hs, hq => by
    have h := hs 0 d ρ rfl h0
    unfold mForL
    obtain ⟨ρ1, e1, o, e2, h⟩ := h
    rw [e1]
    simp only [e2]
    have ih : ∀ ρ, I (k0 + 1) ρ → Wp (mForL g mb r ρ) Q := fun ρ h => W_forL r I (k0 + 1) ρ h (fun k d ρ e i => by
      have := hs (k + 1) d ρ (by simpa using e) (by rw [show k0 + (k + 1) = k0 + 1 + k by omega]; exact i)
      rw [show k0 + (k + 1) + 1 = k0 + 1 + k + 1 by omega] at this
      exact this) (fun ρ h => hq ρ (by rw [List.length_cons, show k0 + (r.length + 1) = k0 + 1 + r.length by omega]; exact h))
    cases o with
    | nx ρ2 => exact ih ρ2 h
    | ct ρ2 => exact ih ρ2 h
    | bk ρ2 => exact W_some.mpr h
    | rt v ρ2 => exact W_some.mpr h
/-- a loop over ds, by what holds behind k items -/
theorem W_forK {Q : Out → Prop} {ds : List D} {ρ : Rho} (I : Nat → Rho → Prop) (h0 : I 0 ρ) (hs : ∀ k d ρ, ds[k]? = some d → I k ρ → Wp (g d ρ) fun ρ1 => Wp (mb ρ1) (forQ (I (k + 1)) Q)) (hq : ∀ ρ, I ds.length ρ → Q (.nx ρ)) : Wp (mForL g mb ds ρ) Q :=
  W_forL ds I 0 ρ h0 (fun k d ρ e i => by rw [Nat.zero_add] at *; exact hs k d ρ e i) (fun ρ i => by rw [Nat.zero_add] at i; exact hq ρ i)
theorem W_forR {Q : Out → Prop} {lo : Int} {n : Nat} {ρ : Rho} (I : Nat → Rho → Prop) (h0 : I 0 ρ) (hs : ∀ k ρ, k < n → I k ρ → Wp (g (.int (lo + (k : Nat))) ρ) fun ρ1 => Wp (mb ρ1) (forQ (I (k + 1)) Q)) (hq : ∀ ρ, I n ρ → Q (.nx ρ)) : Wp (mForL g mb (rangeD lo n) ρ) Q :=
  W_forK I h0 (fun k d ρ e i => by
    have hk : k < n := by have := (List.getElem?_eq_some_iff.mp e).1; rwa [rangeD_len] at this
    rw [rangeD_get hk] at e
    cases e
    exact hs k ρ hk i) (fun ρ i => by rw [rangeD_len] at i; exact hq ρ i)
/-- a loop over xs as data, by what holds behind a part of it -/
theorem W_forM {α : Type} {Q : Out → Prop} (xs : List α) (e : α → D) {ρ : Rho} (I : List α → Rho → Prop) (h0 : I [] ρ) (hs : ∀ pre x post ρ, xs = pre ++ x :: post → I pre ρ → Wp (g (e x) ρ) fun ρ1 => Wp (mb ρ1) (forQ (I (pre ++ [x])) Q)) (hq : ∀ ρ, I xs ρ → Q (.nx ρ)) : Wp (mForL g mb (xs.map e) ρ) Q := by
  refine W_forK (fun k ρ => I (xs.take k) ρ) (by simpa using h0) (fun k d ρ q i => ?_) (fun ρ i => hq ρ (by simpa using i))
  rw [List.getElem?_map] at q
  cases hx : xs[k]? with
  | none => rw [hx] at q; cases q
  | some x =>
    rw [hx] at q
    cases q
    obtain ⟨hk, hx'⟩ := List.getElem?_eq_some_iff.mp hx
    have h1 : xs = xs.take k ++ x :: xs.drop (k + 1) := by
      rw [← hx', ← List.drop_eq_getElem_cons hk, List.take_append_drop]
    have h2 := hs (xs.take k) x (xs.drop (k + 1)) ρ h1 i
    rw [show xs.take (k + 1) = xs.take k ++ [x] by rw [← hx', List.take_append_getElem hk]]
    exact h2
theorem W_lcL {Q : List D × Rho → Prop} : ∀ (ds : List D) (I : Nat → List D → Rho → Prop) (k0 : Nat) (acc : List D) (ρ : Rho), acc.length ≤ k0 → k0 + ds.length < sizeLine → I k0 acc ρ →
    (∀ k d acc ρ, ds[k]? = some d → I (k0 + k) acc ρ → Wp (g d ρ) fun ρ1 => Wp (mt ρ1) fun r => bcs r.1 (Wp (me r.2) fun y => I (k0 + k + 1) (acc ++ [y.1]) (wipeR y.2 vs)) (I (k0 + k + 1) acc (wipeR r.2 vs))) →
    (∀ acc ρ, acc.length ≤ k0 + ds.length → I (k0 + ds.length) acc ρ → Q (acc, ρ)) → Wp (lcL g mt me vs ds acc ρ) Q
  | [], I, k0, acc, ρ, hl, hz, h0, hs, hq => W_some.mpr (hq acc ρ hl h0)
  | d :: r, I, k0, acc, ρ, hl, hz, h0, hs, hq => by
    have h := hs 0 d acc ρ rfl h0
    rw [List.length_cons] at hz
    have ih : ∀ acc ρ, acc.length ≤ k0 + 1 → I (k0 + 1) acc ρ → Wp (lcL g mt me vs r acc ρ) Q := fun acc ρ hl h => W_lcL r I (k0 + 1) acc ρ hl (by omega) h (fun k d acc ρ e i => by
      have := hs (k + 1) d acc ρ (by simpa using e) (by rw [show k0 + (k + 1) = k0 + 1 + k by omega]; exact i)
      rw [show k0 + (k + 1) + 1 = k0 + 1 + k + 1 by omega] at this
      exact this) (fun acc ρ hl h => hq acc ρ (by rw [List.length_cons]; omega) (by rw [List.length_cons, show k0 + (r.length + 1) = k0 + 1 + r.length by omega]; exact h))
    unfold lcL
    obtain ⟨ρ1, e1, ⟨b, ρ2⟩, e2, h⟩ := h
    rw [e1]
    simp only [e2]
    cases b with
    | true =>
      obtain ⟨⟨y, ρ3⟩, e3, h⟩ := h.1 rfl
      simp only [e3]
      rw [if_pos (by omega)]
      exact ih _ _ (by simp; omega) h
    | false =>
      exact ih _ _ (by omega) (h.2 rfl)
/-- [.. for .. in ds if ..], by what holds behind k items -/
theorem W_lcK {Q : List D × Rho → Prop} {ds : List D} {ρ : Rho} (I : Nat → List D → Rho → Prop) (hz : ds.length < sizeLine) (h0 : I 0 [] ρ)
    (hs : ∀ k d acc ρ, ds[k]? = some d → I k acc ρ → Wp (g d ρ) fun ρ1 => Wp (mt ρ1) fun r => bcs r.1 (Wp (me r.2) fun y => I (k + 1) (acc ++ [y.1]) (wipeR y.2 vs)) (I (k + 1) acc (wipeR r.2 vs)))
    (hq : ∀ acc ρ, acc.length ≤ ds.length → I ds.length acc ρ → Q (acc, ρ)) : Wp (lcL g mt me vs ds [] ρ) Q :=
  W_lcL ds I 0 [] ρ (Nat.le_refl _) (by omega) h0 (fun k d acc ρ e i => by rw [Nat.zero_add] at *; exact hs k d acc ρ e i) (fun acc ρ hl i => by rw [Nat.zero_add] at *; exact hq acc ρ hl i)
/-- each item gives its own data, the slots stay as J tells -/
theorem W_lcM {α : Type} {Q : List D × Rho → Prop} (xs : List α) (e : α → D) (J : Rho → Prop) (t : α → Bool) (y : α → D) {ρ : Rho} (hz : xs.length < sizeLine) (h0 : J ρ)
    (hs : ∀ x ∈ xs, ∀ ρ, J ρ → Wp (g (e x) ρ) fun ρ1 => Wp (mt ρ1) fun r => r.1 = t x ∧ (t x = true → Wp (me r.2) fun z => z.1 = y x ∧ J (wipeR z.2 vs)) ∧ (t x = false → J (wipeR r.2 vs)))
    (hq : ∀ ρ, J ρ → Q ((xs.filter t).map y, ρ)) : Wp (lcL g mt me vs (xs.map e) [] ρ) Q := by
  refine W_lcK (fun k acc ρ => acc = ((xs.take k).filter t).map y ∧ J ρ) (by simpa using hz) ⟨by simp, h0⟩ (fun k d acc ρ q i => ?_) (fun acc ρ hl i => ?_)
  · rw [List.getElem?_map] at q
    cases hx : xs[k]? with
    | none => rw [hx] at q; cases q
    | some x =>
      rw [hx] at q
      cases q
      obtain ⟨hk, hx'⟩ := List.getElem?_eq_some_iff.mp hx
      refine (hs x (List.mem_of_getElem? hx) ρ i.2).mono fun ρ1 h => h.mono fun r ⟨h1, h2, h3⟩ => ?_
      rw [show xs.take (k + 1) = xs.take k ++ [x] by rw [← hx', List.take_append_getElem hk], List.filter_append, List.map_append, ← i.1]
      refine ⟨fun b => (h2 (h1 ▸ b)).mono fun z hz => ⟨?_, hz.2⟩, fun b => ⟨?_, h3 (h1 ▸ b)⟩⟩
      · have : t x = true := h1 ▸ b
        simp [List.filter, this, hz.1]
      · have : t x = false := h1 ▸ b
        simp [List.filter, this]
  · have h := i.1
    rw [List.length_map, List.take_length] at h
    rw [h]
    exact hq ρ i.2
/-- each item gives something that E tells -/
theorem W_lcP {Q : List D × Rho → Prop} {ds : List D} (J : Rho → Prop) (P : D → Prop) {ρ : Rho} (hz : ds.length < sizeLine) (h0 : J ρ)
    (hs : ∀ d ∈ ds, ∀ ρ, J ρ → Wp (g d ρ) fun ρ1 => Wp (mt ρ1) fun r => r.1 = true ∧ Wp (me r.2) fun z => P z.1 ∧ J (wipeR z.2 vs))
    (hq : ∀ acc ρ, acc.length = ds.length → (∀ a ∈ acc, P a) → J ρ → Q (acc, ρ)) : Wp (lcL g mt me vs ds [] ρ) Q := by
  refine W_lcK (fun k acc ρ => acc.length = k ∧ (∀ a ∈ acc, P a) ∧ J ρ) hz ⟨rfl, (fun _ h => by cases h), h0⟩ (fun k d acc ρ q i => ?_) (fun acc ρ hl i => hq acc ρ i.1 i.2.1 i.2.2)
  refine (hs d (List.mem_of_getElem? q) ρ i.2.2).mono fun ρ1 h => h.mono fun r ⟨h1, h2⟩ => ?_
  rw [h1]
  refine bcs_true.mpr (h2.mono fun z hz => ⟨by simp [i.1], fun a ha => ?_, hz.2⟩)
  rcases List.mem_append.mp ha with ha | ha
  · exact i.2.1 a ha
  · rw [List.mem_singleton.mp ha]; exact hz.1
theorem W_dcL {Q : List (D × D) × Rho → Prop} : ∀ (ds : List D) (I : Nat → List (D × D) → Rho → Prop) (k0 : Nat) (acc : List (D × D)) (ρ : Rho), acc.length ≤ k0 → k0 + ds.length < sizeLine → I k0 acc ρ →
    (∀ k d acc ρ, ds[k]? = some d → I (k0 + k) acc ρ → Wp (g d ρ) fun ρ1 => Wp (mt ρ1) fun r => bcs r.1 (Wp (mk r.2) fun kd => Wp (mv kd.2) fun y => Wp (keyD kd.1) fun key => I (k0 + k + 1) (gPut.dput acc key y.1) (wipeR y.2 vs)) (I (k0 + k + 1) acc (wipeR r.2 vs))) →
    (∀ acc ρ, acc.length ≤ k0 + ds.length → I (k0 + ds.length) acc ρ → Q (acc, ρ)) → Wp (dcL g mt mk mv vs ds acc ρ) Q
  | [], I, k0, acc, ρ, hl, hz, h0, hs, hq => W_some.mpr (hq acc ρ hl h0)
  | d :: r, I, k0, acc, ρ, hl, hz, h0, hs, hq => by
    have h := hs 0 d acc ρ rfl h0
    rw [List.length_cons] at hz
    have ih : ∀ acc ρ, acc.length ≤ k0 + 1 → I (k0 + 1) acc ρ → Wp (dcL g mt mk mv vs r acc ρ) Q := fun acc ρ hl h => W_dcL r I (k0 + 1) acc ρ hl (by omega) h (fun k d acc ρ e i => by
      have := hs (k + 1) d acc ρ (by simpa using e) (by rw [show k0 + (k + 1) = k0 + 1 + k by omega]; exact i)
      rw [show k0 + (k + 1) + 1 = k0 + 1 + k + 1 by omega] at this
      exact this) (fun acc ρ hl h => hq acc ρ (by rw [List.length_cons]; omega) (by rw [List.length_cons, show k0 + (r.length + 1) = k0 + 1 + r.length by omega]; exact h))
    unfold dcL
    obtain ⟨ρ1, e1, ⟨b, ρ2⟩, e2, h⟩ := h
    rw [e1]
    simp only [e2]
    cases b with
    | true =>
      obtain ⟨⟨kd, ρk⟩, e3, ⟨y, ρ3⟩, e4, key, e5, h⟩ := h.1 rfl
      simp only at e4 e5
      simp only [e3, e4, e5]
      rw [if_pos (by omega)]
      refine ih _ _ ?_ h
      unfold gPut.dput
      split
      · simp; omega
      · simp; omega
    | false =>
      exact ih _ _ (by omega) (h.2 rfl)
theorem W_dcK {Q : List (D × D) × Rho → Prop} {ds : List D} {ρ : Rho} (I : Nat → List (D × D) → Rho → Prop) (hz : ds.length < sizeLine) (h0 : I 0 [] ρ)
    (hs : ∀ k d acc ρ, ds[k]? = some d → I k acc ρ → Wp (g d ρ) fun ρ1 => Wp (mt ρ1) fun r => bcs r.1 (Wp (mk r.2) fun kd => Wp (mv kd.2) fun y => Wp (keyD kd.1) fun key => I (k + 1) (gPut.dput acc key y.1) (wipeR y.2 vs)) (I (k + 1) acc (wipeR r.2 vs)))
    (hq : ∀ acc ρ, acc.length ≤ ds.length → I ds.length acc ρ → Q (acc, ρ)) : Wp (dcL g mt mk mv vs ds [] ρ) Q :=
  W_dcL ds I 0 [] ρ (Nat.le_refl _) (by omega) h0 (fun k d acc ρ e i => by rw [Nat.zero_add] at *; exact hs k d acc ρ e i) (fun acc ρ hl i => by rw [Nat.zero_add] at *; exact hq acc ρ hl i)
/-- any, all over xs as data, each item with its own bool -/
theorem W_anM {α : Type} {k : Bool} {Q : Bool × Rho → Prop} : ∀ (xs : List α) (e : α → D) (J : Rho → Prop) (t p : α → Bool) {ρ : Rho} (h0 : J ρ)
    (hs : ∀ x ∈ xs, ∀ ρ, J ρ → Wp (g (e x) ρ) fun ρ1 => Wp (mt ρ1) fun r => r.1 = t x ∧ (t x = true → Wp (me r.2) fun z => z.1 = .bool (p x) ∧ J (wipeR z.2 vs)) ∧ (t x = false → J (wipeR r.2 vs)))
    (hq : ∀ ρ, J ρ → Q (if k then xs.any (fun x => t x && p x) else xs.all (fun x => !t x || p x), ρ)), Wp (anL k g mt me vs (xs.map e) ρ) Q
  | [], e, J, t, p, ρ, h0, hs, hq => W_some.mpr (by
    have := hq ρ h0
    cases k <;> simpa using this)
  | x :: r, e, J, t, p, ρ, h0, hs, hq => by
    obtain ⟨ρ1, e1, ⟨b, ρ2⟩, e2, h1, h2, h3⟩ := hs x List.mem_cons_self ρ h0
    rw [List.map_cons]
    unfold anL
    rw [e1]
    simp only [e2]
    simp only at h1 h2 h3
    cases b with
    | true =>
      obtain ⟨⟨z, ρ3⟩, e3, h4, h5⟩ := h2 h1.symm
      simp only at h4 h5
      subst h4
      simp only [e3]
      by_cases hp : p x = k
      · rw [if_pos hp]
        refine W_some.mpr ?_
        have := hq _ h5
        cases k <;> simp [hp, ← h1] at this ⊢ <;> exact this
      · rw [if_neg hp]
        refine W_anM r e J t p h5 (fun x hx => hs x (List.mem_cons_of_mem _ hx)) fun ρ hρ => ?_
        have := hq _ hρ
        cases k <;> simp only [Bool.not_eq_true, Bool.not_eq_false] at hp <;> simp [hp, ← h1] at this ⊢ <;> exact this
    | false =>
      refine W_anM r e J t p (h3 h1.symm) (fun x hx => hs x (List.mem_cons_of_mem _ hx)) fun ρ hρ => ?_
      have := hq _ hρ
      cases k <;> simp [← h1] at this ⊢ <;> exact this
theorem W_suM {α : Type} {Q : Int × Rho → Prop} : ∀ (xs : List α) (e : α → D) (J : Rho → Prop) (t : α → Bool) (p : α → Int) (acc : Int) {ρ : Rho} (h0 : J ρ)
    (hb : ∀ pre post, xs = pre ++ post → InLong (acc + ((pre.filter t).map p).sum)) (hb1 : ∀ x ∈ xs, t x = true → InLong (p x))
    (hs : ∀ x ∈ xs, ∀ ρ, J ρ → Wp (g (e x) ρ) fun ρ1 => Wp (mt ρ1) fun r => r.1 = t x ∧ (t x = true → Wp (me r.2) fun z => z.1 = .int (p x) ∧ J (wipeR z.2 vs)) ∧ (t x = false → J (wipeR r.2 vs)))
    (hq : ∀ ρ, J ρ → Q (acc + ((xs.filter t).map p).sum, ρ)), Wp (suL g mt me vs (xs.map e) acc ρ) Q
  | [], e, J, t, p, acc, ρ, h0, hb, hb1, hs, hq => W_some.mpr (by simpa using hq ρ h0)
  | x :: r, e, J, t, p, acc, ρ, h0, hb, hb1, hs, hq => by
    obtain ⟨ρ1, e1, ⟨b, ρ2⟩, e2, h1, h2, h3⟩ := hs x List.mem_cons_self ρ h0
    rw [List.map_cons]
    unfold suL
    rw [e1]
    simp only [e2]
    simp only at h1 h2 h3
    cases b with
    | true =>
      obtain ⟨⟨z, ρ3⟩, e3, h4, h5⟩ := h2 h1.symm
      simp only at h4 h5
      subst h4
      simp only [e3]
      have hl : InLong (acc + p x) := by
        have := hb [x] r rfl
        simpa [List.filter, ← h1] using this
      rw [if_pos ⟨hb1 x List.mem_cons_self h1.symm, hl⟩]
      refine W_suM r e J t p (acc + p x) h5 (fun pre post q => ?_) (fun x hx => hb1 x (List.mem_cons_of_mem _ hx)) (fun x hx => hs x (List.mem_cons_of_mem _ hx)) fun ρ hρ => ?_
      · have := hb (x :: pre) post (by rw [q]; rfl)
        simp [List.filter, ← h1] at this
        rw [show acc + p x + ((pre.filter t).map p).sum = acc + (p x + ((pre.filter t).map p).sum) by omega]
        exact this
      · have := hq _ hρ
        simp [List.filter, ← h1] at this
        rw [show acc + p x + ((r.filter t).map p).sum = acc + (p x + ((r.filter t).map p).sum) by omega]
        exact this
    | false =>
      refine W_suM r e J t p acc (h3 h1.symm) (fun pre post q => ?_) (fun x hx => hb1 x (List.mem_cons_of_mem _ hx)) (fun x hx => hs x (List.mem_cons_of_mem _ hx)) fun ρ hρ => ?_
      · have := hb (x :: pre) post (by rw [q]; rfl)
        simpa [List.filter, ← h1] using this
      · have := hq _ hρ
        simpa [List.filter, ← h1] using this
end
/-! ### items -/
theorem W_atI {ds : List D} {i : Int} {Q : D → Prop} (h0 : 0 ≤ i) (h1 : i < ds.length) (hq : ∀ d, ds[i.toNat]? = some d → Q d) : Wp (atI ds i) Q := by
  unfold atI ixN
  rw [if_pos h0, if_pos h1]
  have h : i.toNat < ds.length := by omega
  exact ⟨ds[i.toNat], by simp [h], hq _ (by simp [h])⟩
theorem W_atM {α : Type} {xs : List α} {e : α → D} {i : Int} {Q : D → Prop} (h0 : 0 ≤ i) (h1 : i < xs.length) (hq : ∀ x, xs[i.toNat]? = some x → Q (e x)) : Wp (atI (xs.map e) i) Q := by
  refine W_atI h0 (by simpa using h1) fun d q => ?_
  rw [List.getElem?_map] at q
  cases hx : xs[i.toNat]? with
  | none => rw [hx] at q; cases q
  | some x => rw [hx] at q; cases q; exact hq x hx
theorem W_atL {α : Type} {xs : List α} {e : α → D} {i : Int} {Q : D → Prop} (h0 : i < 0) (h1 : -(xs.length : Int) ≤ i) (hq : ∀ x, xs[(i + xs.length).toNat]? = some x → Q (e x)) : Wp (atI (xs.map e) i) Q := by
  unfold atI ixN
  rw [if_neg (by omega), if_pos (by simpa using h1)]
  have h : (i + xs.length).toNat < xs.length := by omega
  exact ⟨e xs[(i + xs.length).toNat], by simp [h], hq _ (by simp [h])⟩
def slotD : Option (Bool × D) → D
  | some (_, d) => d
  | none => .none
def backRl : Nat → Rho → List D
  | 0, _ => []
  | n + 1, x :: r => slotD x :: backRl n r
  | n + 1, [] => .none :: backRl n []
theorem backRl_get : ∀ (n : Nat) (ρ : Rho), (backRl n ρ).length = n ∧ ∀ j, j < n → (backRl n ρ)[j]? = some (match ρ[j]? with | some (some (_, d)) => d | _ => .none)
  | 0, ρ => ⟨rfl, fun j h => absurd h (Nat.not_lt_zero _)⟩
  | n + 1, x :: r => ⟨congrArg (· + 1) (backRl_get n r).1, fun j h => by
    cases j with
    | zero =>
      match x with
      | none => rfl
      | some (b, d) => rfl
    | succ j => simpa [backRl] using (backRl_get n r).2 j (by omega)⟩
  | n + 1, [] => ⟨congrArg (· + 1) (backRl_get n []).1, fun j h => by
    cases j with
    | zero => rfl
    | succ j => simpa [backRl] using (backRl_get n []).2 j (by omega)⟩
theorem backR_eq {ρ : Rho} {n : Nat} : backR ρ n = backRl n ρ := by
  apply List.ext_getElem?
  intro j
  by_cases h : j < n
  · rw [(backRl_get n ρ).2 j h]
    unfold backR
    rw [List.getElem?_map, List.getElem?_range h]
    rfl
  · rw [List.getElem?_eq_none (l := backR ρ n) (by unfold backR; rw [List.length_map, List.length_range]; omega), List.getElem?_eq_none (by rw [(backRl_get n ρ).1]; omega)]
theorem slotD_some {b : Bool} {d : D} : slotD (some (b, d)) = d := rfl
theorem slotD_none : slotD none = .none := rfl
end PD

set_option Elab.async false
set_option linter.all false
set_option maxRecDepth 100000
set_option maxHeartbeats 2000000
/-! WQ: WP with what is wanted of value and slots apart. -/
namespace PD
open PySem PySem.Spec PyProof.Rows L2 GxR GenX OwnK
def Wq {α β : Type} (o : Option (α × β)) (K : α → β → Prop) [Tg K] : Prop := Wp o fun r => K r.1 r.2
def rQ (n : Nat) (K : D → List D → Prop) [Tg K] : Out → Prop := runQ n fun r => K r.1 r.2
def rQN (n : Nat) (K : D → List D → Prop) [Tg K] : Out → Prop := runQN n fun r => K r.1 r.2
def list2Q (K : D → D → Prop) [Tg K] : List D → Prop
  | [a, b] => K a b
  | _ => False
section
variable {α β : Type} {ρ : Rho}
theorem Wq.mono {o : Option (α × β)} {K K' : α → β → Prop} (h : Wq o K) (k : ∀ a b, K a b → K' a b) : Wq o K' := Wp.mono h fun r z => k _ _ z
theorem q_some {K : α → β → Prop} {a : α} {b : β} : Wq (some (a, b)) K ↔ K a b := W_some
theorem q_none {K : α → β → Prop} : Wq (none : Option (α × β)) K ↔ False := W_none
theorem q_ite {K : α → β → Prop} {c : Prop} [Decidable c] {a b : Option (α × β)} : Wq (if c then a else b) K ↔ (c → Wq a K) ∧ (¬ c → Wq b K) := W_ite
theorem rQ_nx {n : Nat} {K : D → List D → Prop} : rQ n K (.nx ρ) ↔ K .none (backR ρ n) := Iff.rfl
theorem rQ_rt {n : Nat} {K : D → List D → Prop} {d : D} : rQ n K (.rt d ρ) ↔ K d (backR ρ n) := Iff.rfl
theorem rQN_rt {n : Nat} {K : D → List D → Prop} {d : D} : rQN n K (.rt d ρ) ↔ K d (backR ρ n) := Iff.rfl
theorem list2Q_eq {K : D → D → Prop} {a b : D} : list2Q K [a, b] ↔ K a b := Iff.rfl
end
section
variable {K : D → Rho → Prop} {KB : Bool → Rho → Prop} {KL : List D → Rho → Prop} {QS : Out → Prop} {KO : Option Int → Rho → Prop} {ρ : Rho}
theorem q_runD {n : Nat} {io : List Nat} {mb : MS} {ds : List D} {K : D → List D → Prop} : Wq (runD n io mb ds) K ↔ Wp (mb (startR io n ds)) (rQ ds.length K) := W_runD
theorem q_runN {n : Nat} {io : List Nat} {mb : MS} {ds : List D} {K : D → List D → Prop} : Wq (runN n io mb ds) K ↔ Wp (mb (startR io n ds)) (rQN ds.length K) := W_runN
theorem q_bin {g : D → D → Option D} {m1 m2 : M D} : Wq (mBin g m1 m2 ρ) K ↔ Wq (m1 ρ) fun d1 ρ1 => Wq (m2 ρ1) fun d2 ρ2 => Wp (g d1 d2) fun d => K d ρ2 := W_bin
theorem q_nil : Wq (mNil ρ) KL ↔ KL [] ρ := W_nil
theorem q_cons {m : M D} {ms : M (List D)} : Wq (mCons m ms ρ) KL ↔ Wq (m ρ) fun d ρ1 => Wq (ms ρ1) fun ds ρ2 => KL (d :: ds) ρ2 := W_cons
theorem q_app {g : List D → Option D} {m : M (List D)} : Wq (mApp g m ρ) K ↔ Wq (m ρ) fun ds ρ1 => Wp (g ds) fun d => K d ρ1 := W_app
theorem q_un {g : D → Option D} {m : M D} : Wq (mUn g m ρ) K ↔ Wq (m ρ) fun d ρ1 => Wp (g d) fun d => K d ρ1 := W_un
theorem q_mB {m : M D} : Wq (mB m ρ) KB ↔ Wq (m ρ) fun d ρ1 => boolQ (fun b => KB b ρ1) d := W_mB
theorem q_andT {m1 m2 : M Bool} : Wq (mAndT m1 m2 ρ) KB ↔ Wq (m1 ρ) fun b ρ1 => bcs b (Wq (m2 ρ1) KB) (KB false ρ1) := W_andT
theorem q_orT {m1 m2 : M Bool} : Wq (mOrT m1 m2 ρ) KB ↔ Wq (m1 ρ) fun b ρ1 => bcs b (KB true ρ1) (Wq (m2 ρ1) KB) := W_orT
theorem q_notT {m1 : M Bool} : Wq (mNotT m1 ρ) KB ↔ Wq (m1 ρ) fun b ρ1 => KB (!b) ρ1 := W_notT
theorem q_andV {m1 m2 : M D} : Wq (mAndV m1 m2 ρ) K ↔ Wq (m1 ρ) fun d ρ1 => boolQ (fun b => bcs b (Wq (m2 ρ1) K) (K (.bool false) ρ1)) d := W_andV
theorem q_orV {m1 m2 : M D} : Wq (mOrV m1 m2 ρ) K ↔ Wq (m1 ρ) fun d ρ1 => boolQ (fun b => bcs b (K (.bool true) ρ1) (Wq (m2 ρ1) K)) d := W_orV
theorem q_notV {m1 : M D} : Wq (mNotV m1 ρ) K ↔ Wq (m1 ρ) fun d ρ1 => boolQ (fun b => K (.bool (!b)) ρ1) d := W_notV
theorem q_if {c : M Bool} {m1 m2 : M D} : Wq (mIf c m1 m2 ρ) K ↔ Wq (c ρ) fun b ρ1 => bcs b (Wq (m1 ρ1) K) (Wq (m2 ρ1) K) := W_if
theorem q_mP {m : M D} : Wq (mP m ρ) KO ↔ Wq (m ρ) fun d ρ1 => intQ (fun i => KO (some i) ρ1) d := W_mP
theorem q_noP : Wq (mNoP ρ) KO ↔ KO none ρ := W_noP
theorem q_sl {m : M D} {ml mh : M (Option Int)} : Wq (mSl m ml mh ρ) K ↔ Wq (m ρ) fun d ρ1 => Wq (ml ρ1) fun l ρ2 => Wq (mh ρ2) fun h ρ3 => Wp (gSl l h d) fun d => K d ρ3 := W_sl
theorem q_items {m : M D} : Wq (mItems m ρ) KL ↔ Wq (m ρ) fun d ρ1 => Wp (gItems d) fun ds => KL ds ρ1 := W_items
theorem q_range {g : List D → Option (List D)} {m : M (List D)} : Wq (mRange g m ρ) KL ↔ Wq (m ρ) fun ds ρ1 => Wp (g ds) fun es => KL es ρ1 := W_range
theorem q_chain {g g' : D → D → Option D} {ma mb mc : M D} : Wq (mChain g g' ma mb mc ρ) K ↔ Wq (ma ρ) fun a ρ1 => Wq (mb ρ1) fun b ρ2 => Wp (g a b) fun t => boolQ (fun z => bcs z (Wq (mc ρ2) fun c ρ3 => Wp (g' b c) fun d => K d ρ3) (K (.bool false) ρ2)) t := W_chain
theorem q_ret {m : M D} : Wp (mRet m ρ) QS ↔ Wq (m ρ) fun d ρ1 => QS (.rt d ρ1) := W_ret
theorem q_drop {m : M D} : Wp (mDrop m ρ) QS ↔ Wq (m ρ) fun d ρ1 => QS (.nx ρ1) := W_drop
theorem q_ifS {c : M Bool} {m1 m2 : MS} : Wp (mIfS c m1 m2 ρ) QS ↔ Wq (c ρ) fun b ρ1 => bcs b (Wp (m1 ρ1) QS) (Wp (m2 ρ1) QS) := W_ifS
theorem q_asg {m : M D} {g : D → Rho → Option Rho} : Wp (mAsg m g ρ) QS ↔ Wq (m ρ) fun d ρ1 => Wp (g d ρ1) fun ρ2 => QS (.nx ρ2) := W_asg
theorem q_par {i j : Nat} {m : M (List D)} : Wp (mPar i j m ρ) QS ↔ Wq (m ρ) fun ds ρ1 => list2Q (fun a b => i < ρ1.length ∧ j < ρ1.length ∧ QS (.nx ((ρ1.set i (some (false, a))).set j (some (false, b))))) ds := W_par.trans <| by
  unfold Wq
  constructor
  · exact fun h => h.mono fun r ⟨a, b, e, h⟩ => by rw [e]; exact h
  · refine fun h => h.mono fun r h => ?_
    obtain ⟨ds, ρ1⟩ := r
    match ds, h with
    | [a, b], h => exact ⟨a, b, rfl, h⟩
theorem q_put {i : Nat} {mk mv : M D} : Wp (mPut i mk mv ρ) QS ↔ Wq (mv ρ) fun v ρ1 => ownQ (fun o => Wq (mk ρ1) fun k ρ2 => Wp (gPut o k v) fun o' => QS (.nx (ρ2.set i (some (true, o'))))) (ρ1[i]?) := W_put
theorem q_aug {i : Nat} {g : D → D → Option D} {m : M D} : Wp (mAug i g m ρ) QS ↔ borQ (fun x => Wq (m ρ) fun r ρ1 => Wp (g x r) fun d => i < ρ1.length ∧ QS (.nx (ρ1.set i (some (false, d))))) (ρ[i]?) := W_aug
theorem q_augL {i : Nat} {g : D → D → Option D} {mk me : M D} : Wp (mAugL i g mk me ρ) QS ↔ ownQ (fun o => Wq (mk ρ) fun k ρ1 => Wp (gIxL o k) fun x => Wq (me ρ1) fun r ρ2 => Wp (g x r) fun d => Wp (gPut o k d) fun o' => QS (.nx (ρ2.set i (some (true, o'))))) (ρ[i]?) := W_augL
theorem q_mut {i : Nat} {g : D → D → Option (D × D)} {m : M D} : Wq (mMut i g m ρ) K ↔ ownQ (fun o => Wq (m ρ) fun r ρ1 => Wq (g o r) fun z o' => K z (ρ1.set i (some (true, o')))) (ρ[i]?) := W_mut
theorem q_call {f : List D → Option (D × List D)} {ts : List (Option Nat)} {m : M (List D)} : Wq (mCall f ts m ρ) K ↔ Wq (m ρ) fun ds ρ1 => Wq (f ds) fun d es => es.length = ds.length ∧ K d (putBack ts es ρ1) := W_call
theorem q_callK {f : List D → Option (D × List D)} {ga : List D → List D} {m : M (List D)} : Wq (mCallK f ga m ρ) K ↔ Wq (m ρ) fun ds ρ1 => Wq (f (ga ds)) fun d es => K d ρ1 := W_callK
theorem q_tab {tbl : List (Str × (List D → Option (D × List D)))} {ts : List (Option Nat)} {mk : M D} {m : M (List D)} : Wq (mTab tbl ts mk m ρ) K ↔ Wq (mk ρ) fun k ρ1 => strQ (fun z => Wp (tbl.lookup z) fun fn => Wq (mCall fn ts m ρ1) K) k := W_tab
theorem q_consIo {i : Nat} {ms : M (List D)} : Wq (mConsIo i ms ρ) KL ↔ ownQ (fun _ => Wq (ms ρ) fun ds ρ1 => ownQ (fun d => KL (d :: ds) ρ1) (ρ1[i]?)) (ρ[i]?) := W_consIo
theorem q_get2 {m1 m2 m3 : M D} : Wq (mGet2 m1 m2 m3 ρ) K ↔ Wq (m1 ρ) fun a ρ1 => dictQ (fun kvs => Wq (m2 ρ1) fun b ρ2 => Wq (m3 ρ2) fun c ρ3 => Wp (keyD b) fun k => isT kvs = false ∧ K ((dget kvs k).getD c) ρ3) a := W_get2
theorem q_for {mi : M (List D)} {g : D → Rho → Option Rho} {mb : MS} : Wp (mFor mi g mb ρ) QS ↔ Wq (mi ρ) fun ds ρ1 => Wp (mForL g mb ds ρ1) QS := W_for
theorem q_lc {mi : M (List D)} {g : D → Rho → Option Rho} {mt : M Bool} {me : M D} {vs : List Nat} : Wq (mLc mi g mt me vs ρ) K ↔ Wq (mi ρ) fun ds ρ1 => Wq (lcL g mt me vs ds [] (wipeR ρ1 vs)) fun s ρ2 => K (.list s) (wipeR ρ2 vs) := W_lc
theorem q_dc {mi : M (List D)} {g : D → Rho → Option Rho} {mt : M Bool} {mk mv : M D} {vs : List Nat} : Wq (mDc mi g mt mk mv vs ρ) K ↔ Wq (mi ρ) fun ds ρ1 => Wq (dcL g mt mk mv vs ds [] (wipeR ρ1 vs)) fun s ρ2 => K (.dict s) (wipeR ρ2 vs) := W_dc
theorem q_an {k : Bool} {mi : M (List D)} {g : D → Rho → Option Rho} {mt : M Bool} {me : M D} {vs : List Nat} : Wq (mAn k mi g mt me vs ρ) K ↔ Wq (mi ρ) fun ds ρ1 => Wq (anL k g mt me vs ds (wipeR ρ1 vs)) fun s ρ2 => K (.bool s) (wipeR ρ2 vs) := W_an
theorem q_su {mi : M (List D)} {g : D → Rho → Option Rho} {mt : M Bool} {me : M D} {vs : List Nat} : Wq (mSu mi g mt me vs ρ) K ↔ Wq (mi ρ) fun ds ρ1 => Wq (suL g mt me vs ds 0 (wipeR ρ1 vs)) fun s ρ2 => K (.int s) (wipeR ρ2 vs) := W_su
theorem q_mC {d : D} : Wq (mC d ρ) K ↔ K d ρ := W_some
end
section
variable {g : D → Rho → Option Rho} {mb : MS} {mt : M Bool} {me mk mv : M D} {vs : List Nat}
/-- [.. for .. in ds if ..], by what holds behind k items -/
theorem q_lcK {K : List D → Rho → Prop} {ds : List D} {ρ : Rho} (I : Nat → List D → Rho → Prop) (hz : ds.length < 16777216) (h0 : I 0 [] ρ)
    (hs : ∀ k d acc ρ, ds[k]? = some d → I k acc ρ → Wp (g d ρ) fun ρ1 => Wq (mt ρ1) fun b ρ2 => bcs b (Wq (me ρ2) fun y ρ3 => I (k + 1) (acc ++ [y]) (wipeR ρ3 vs)) (I (k + 1) acc (wipeR ρ2 vs)))
    (hq : ∀ acc ρ, acc.length ≤ ds.length → I ds.length acc ρ → K acc ρ) : Wq (lcL g mt me vs ds [] ρ) K := W_lcK I (by unfold sizeLine; omega) h0 hs hq
theorem filter_yes {α : Type} : ∀ (xs : List α), xs.filter (fun _ => true) = xs
  | [] => rfl
  | x :: r => by rw [List.filter_cons_of_pos rfl, filter_yes r]
theorem q_lcM {α : Type} {K : List D → Rho → Prop} (xs : List α) (e : α → D) (J : Rho → Prop) (t : α → Bool) (y : α → D) {ρ : Rho} (hz : xs.length < 16777216) (h0 : J ρ)
    (hs : ∀ x ∈ xs, ∀ ρ, J ρ → Wp (g (e x) ρ) fun ρ1 => Wq (mt ρ1) fun b ρ2 => b = t x ∧ (t x = true → Wq (me ρ2) fun z ρ3 => z = y x ∧ J (wipeR ρ3 vs)) ∧ (t x = false → J (wipeR ρ2 vs)))
    (hq : ∀ ρ, J ρ → K ((xs.filter t).map y) ρ) : Wq (lcL g mt me vs (xs.map e) [] ρ) K := W_lcM xs e J t y (by unfold sizeLine; omega) h0 hs hq
/-- without a test -/
theorem q_lcA {α : Type} {K : List D → Rho → Prop} (xs : List α) (e : α → D) (J : Rho → Prop) (y : α → D) {ρ : Rho} (hz : xs.length < 16777216) (h0 : J ρ)
    (hs : ∀ x ∈ xs, ∀ ρ, J ρ → Wp (g (e x) ρ) fun ρ1 => Wq (me ρ1) fun z ρ3 => z = y x ∧ J (wipeR ρ3 vs))
    (hq : ∀ ρ, J ρ → K (xs.map y) ρ) : Wq (lcL g mYes me vs (xs.map e) [] ρ) K :=
  q_lcM xs e J (fun _ => true) y hz h0 (fun x hx ρ hρ => (hs x hx ρ hρ).mono fun ρ1 h => q_some.mpr ⟨rfl, fun _ => h, fun z => nomatch z⟩) fun ρ hρ => by rw [filter_yes]; exact hq ρ hρ
/-- each item gives something that P tells -/
theorem q_lcP {K : List D → Rho → Prop} {ds : List D} (J : Rho → Prop) (P : D → Prop) {ρ : Rho} (hz : ds.length < 16777216) (h0 : J ρ)
    (hs : ∀ d ∈ ds, ∀ ρ, J ρ → Wp (g d ρ) fun ρ1 => Wq (me ρ1) fun z ρ2 => P z ∧ J (wipeR ρ2 vs))
    (hq : ∀ acc ρ, acc.length = ds.length → (∀ a ∈ acc, P a) → J ρ → K acc ρ) : Wq (lcL g mYes me vs ds [] ρ) K :=
  W_lcP J P (by unfold sizeLine; omega) h0 (fun d hd ρ hρ => (hs d hd ρ hρ).mono fun ρ1 h => W_some.mpr ⟨rfl, h⟩) hq
/-- each item gives the data of something that P tells -/
theorem q_lcE {α β : Type} {K : List D → Rho → Prop} (xs : List α) (e : α → D) (J : Rho → Prop) (y : β → D) (P : α → β → Prop) {ρ : Rho} (hz : xs.length < 16777216) (h0 : J ρ)
    (hs : ∀ x ∈ xs, ∀ ρ, J ρ → Wp (g (e x) ρ) fun ρ1 => Wq (me ρ1) fun z ρ2 => (∃ b, z = y b ∧ P x b) ∧ J (wipeR ρ2 vs))
    (hq : ∀ (bs : List β) ρ, bs.length = xs.length → (∀ (i : Nat) x b, xs[i]? = some x → bs[i]? = some b → P x b) → J ρ → K (bs.map y) ρ) : Wq (lcL g mYes me vs (xs.map e) [] ρ) K := by
  refine q_lcK (fun k acc ρ => ∃ bs : List β, acc = bs.map y ∧ bs.length = k ∧ (∀ (i : Nat) x b, xs[i]? = some x → bs[i]? = some b → P x b) ∧ J ρ) (by simpa using hz) ⟨[], rfl, rfl, fun i x b _ z => by simp at z, h0⟩ (fun k d acc ρ q ⟨bs, e1, e2, e3, e4⟩ => ?_) (fun acc ρ _ ⟨bs, e1, e2, e3, e4⟩ => by
    subst e1; exact hq bs ρ (by simpa using e2) e3 e4)
  rw [List.getElem?_map] at q
  cases hx : xs[k]? with
  | none => rw [hx] at q; cases q
  | some x =>
    rw [hx] at q
    cases q
    refine (hs x (List.mem_of_getElem? hx) ρ e4).mono fun ρ1 h => q_some.mpr (bcs_true.mpr (h.mono fun z ρ2 ⟨⟨b, hb, hp⟩, hj⟩ => ⟨bs ++ [b], by rw [e1, hb]; simp, by simp [e2], fun i x' b' h1 h2 => ?_, hj⟩))
    rcases Nat.lt_trichotomy i k with hi | hi | hi
    · exact e3 i x' b' h1 (by rwa [List.getElem?_append_left (by omega)] at h2)
    · subst hi
      rw [List.getElem?_append_right (by omega), e2, Nat.sub_self] at h2
      rw [hx] at h1
      cases h1
      cases h2
      exact hp
    · rw [List.getElem?_eq_none (by simp; omega)] at h2; cases h2
theorem q_dcK {K : List (D × D) → Rho → Prop} {ds : List D} {ρ : Rho} (I : Nat → List (D × D) → Rho → Prop) (hz : ds.length < 16777216) (h0 : I 0 [] ρ)
    (hs : ∀ k d acc ρ, ds[k]? = some d → I k acc ρ → Wp (g d ρ) fun ρ1 => Wq (mt ρ1) fun b ρ2 => bcs b (Wq (mk ρ2) fun kd ρ3 => Wq (mv ρ3) fun y ρ4 => Wp (keyD kd) fun key => I (k + 1) (gPut.dput acc key y) (wipeR ρ4 vs)) (I (k + 1) acc (wipeR ρ2 vs)))
    (hq : ∀ acc ρ, acc.length ≤ ds.length → I ds.length acc ρ → K acc ρ) : Wq (dcL g mt mk mv vs ds [] ρ) K := W_dcK I (by unfold sizeLine; omega) h0 hs hq
theorem q_anM {α : Type} {k : Bool} {K : Bool → Rho → Prop} (xs : List α) (e : α → D) (J : Rho → Prop) (t p : α → Bool) {ρ : Rho} (h0 : J ρ)
    (hs : ∀ x ∈ xs, ∀ ρ, J ρ → Wp (g (e x) ρ) fun ρ1 => Wq (mt ρ1) fun b ρ2 => b = t x ∧ (t x = true → Wq (me ρ2) fun z ρ3 => z = .bool (p x) ∧ J (wipeR ρ3 vs)) ∧ (t x = false → J (wipeR ρ2 vs)))
    (hq : ∀ ρ, J ρ → K (if k then xs.any (fun x => t x && p x) else xs.all (fun x => !t x || p x)) ρ) : Wq (anL k g mt me vs (xs.map e) ρ) K := W_anM xs e J t p h0 hs hq
theorem q_any {α : Type} {K : Bool → Rho → Prop} (xs : List α) (e : α → D) (J : Rho → Prop) (p : α → Bool) {ρ : Rho} (h0 : J ρ)
    (hs : ∀ x ∈ xs, ∀ ρ, J ρ → Wp (g (e x) ρ) fun ρ1 => Wq (me ρ1) fun z ρ3 => z = .bool (p x) ∧ J (wipeR ρ3 vs))
    (hq : ∀ ρ, J ρ → K (xs.any p) ρ) : Wq (anL true g mYes me vs (xs.map e) ρ) K :=
  q_anM xs e J (fun _ => true) p h0 (fun x hx ρ hρ => (hs x hx ρ hρ).mono fun ρ1 h => q_some.mpr ⟨rfl, fun _ => h, fun z => nomatch z⟩) fun ρ hρ => by simpa using hq ρ hρ
theorem q_all {α : Type} {K : Bool → Rho → Prop} (xs : List α) (e : α → D) (J : Rho → Prop) (p : α → Bool) {ρ : Rho} (h0 : J ρ)
    (hs : ∀ x ∈ xs, ∀ ρ, J ρ → Wp (g (e x) ρ) fun ρ1 => Wq (me ρ1) fun z ρ3 => z = .bool (p x) ∧ J (wipeR ρ3 vs))
    (hq : ∀ ρ, J ρ → K (xs.all p) ρ) : Wq (anL false g mYes me vs (xs.map e) ρ) K :=
  q_anM xs e J (fun _ => true) p h0 (fun x hx ρ hρ => (hs x hx ρ hρ).mono fun ρ1 h => q_some.mpr ⟨rfl, fun _ => h, fun z => nomatch z⟩) fun ρ hρ => by simpa using hq ρ hρ
theorem q_suM {α : Type} {K : Int → Rho → Prop} (xs : List α) (e : α → D) (J : Rho → Prop) (p : α → Int) {ρ : Rho} (h0 : J ρ)
    (hb : ∀ pre post, xs = pre ++ post → InLong ((pre.map p).sum)) (hb1 : ∀ x ∈ xs, InLong (p x))
    (hs : ∀ x ∈ xs, ∀ ρ, J ρ → Wp (g (e x) ρ) fun ρ1 => Wq (me ρ1) fun z ρ3 => z = .int (p x) ∧ J (wipeR ρ3 vs))
    (hq : ∀ ρ, J ρ → K ((xs.map p).sum) ρ) : Wq (suL g mYes me vs (xs.map e) 0 ρ) K :=
  W_suM xs e J (fun _ => true) p 0 h0 (fun pre post h => by rw [filter_yes, Int.zero_add]; exact hb pre post h) (fun x hx _ => hb1 x hx) (fun x hx ρ hρ => (hs x hx ρ hρ).mono fun ρ1 h => W_some.mpr ⟨rfl, fun _ => h, fun z => nomatch z⟩) fun ρ hρ => by rw [filter_yes, Int.zero_add]; exact hq ρ hρ
end
end PD

set_option Elab.async false
set_option linter.all false
set_option maxRecDepth 100000
set_option maxHeartbeats 2000000
/-! WPx: the operators on plain data. -/
namespace PD
open PySem PySem.Spec PyProof.Rows L2 GxR GenX OwnK
theorem gAdd_ii (a b : Int) : gAdd (.int a) (.int b) = some (.int (a + b)) := rfl
theorem gSub_ii (a b : Int) : gSub (.int a) (.int b) = some (.int (a - b)) := rfl
theorem gLen_l (ds : List D) : gLen [.list ds] = some (.int ds.length) := rfl
theorem gLen_t (ds : List D) : gLen [.tuple ds] = some (.int ds.length) := rfl
theorem isT_map {α : Type} {f : α → D × D} (h : ∀ x, isT [f x] = false) (l : List α) : isT (l.map f) = false := by
  cases l with
  | nil => rfl
  | cons x r =>
    have := h x
    rw [List.map_cons]
    generalize f x = p at *
    obtain ⟨k, d⟩ := p
    cases k <;> first | rfl | cases this
theorem isT_dput {kvs : List (D × D)} {k : Key} {d : D} (h : isT kvs = false) : isT (gPut.dput kvs k d) = false := by
  unfold gPut.dput
  cases kvs with
  | nil => cases k <;> rfl
  | cons p r =>
    obtain ⟨a, b⟩ := p
    split
    · rw [List.map_cons]
      cases a <;> first | exact absurd (show true = false from h) (by decide) | (dsimp only; split <;> rfl)
    · cases a <;> first | exact absurd (show true = false from h) (by decide) | rfl
theorem gLen_d (ds : List (D × D)) : gLen [.dict ds] = if isT ds then none else some (.int ds.length) := rfl
theorem gSl_l (lo hi : Option Int) (ds : List D) : gSl lo hi (.list ds) = some (.list (cutD ds lo hi)) := rfl
theorem gSl_t (lo hi : Option Int) (ds : List D) : gSl lo hi (.tuple ds) = some (.tuple (cutD ds lo hi)) := rfl
theorem gIx_l (ds : List D) (i : Int) : gIx (.list ds) (.int i) = atI ds i := rfl
theorem gIx_t (ds : List D) (i : Int) : gIx (.tuple ds) (.int i) = atI ds i := rfl
theorem gIx_di (ds : List (D × D)) (i : Int) : gIx (.dict ds) (.int i) = dget ds (.inl i) := rfl
theorem gIx_ds (ds : List (D × D)) (i : Str) : gIx (.dict ds) (.str i) = dget ds (.inr i) := rfl
theorem gItems_l (ds : List D) : gItems (.list ds) = some ds := rfl
theorem gItems_t (ds : List D) : gItems (.tuple ds) = some ds := rfl
theorem keyD_i (i : Int) : keyD (.int i) = some (.inl i) := rfl
theorem keyD_s (i : Str) : keyD (.str i) = some (.inr i) := rfl
theorem gEq_ii (a b : Int) : gEq (.int a) (.int b) = some (.bool (decide (a = b))) := rfl
theorem gNe_ii (a b : Int) : gNe (.int a) (.int b) = some (.bool (!decide (a = b))) := rfl
theorem gEq_ss {a b : Str} (ha : PyData.strOk a = true) (hb : PyData.strOk b = true) : gEq (.str a) (.str b) = some (.bool (decide (a = b))) := by
  unfold gEq okE SeqAt.shaped
  simp [noD, PyData.canLay0, ha, hb, PyData.depth, PyData.eqv]
  rfl
theorem gNe_ss {a b : Str} (ha : PyData.strOk a = true) (hb : PyData.strOk b = true) : gNe (.str a) (.str b) = some (.bool (!decide (a = b))) := by
  unfold gNe okE SeqAt.shaped
  simp [noD, PyData.canLay0, ha, hb, PyData.depth, PyData.eqv]
  rfl
theorem gMul_s0 (a : Str) : gMul (.str a) (.int 0) = some (.str Str.empty) := rfl
theorem gMul_s1 (a : Str) : gMul (.str a) (.int 1) = some (.str a) := rfl
theorem gMul_r {a b : Int} (h1 : -18446744073709551616 < b) (h2 : b < 18446744073709551616) : gMul (.int a) (.int b) = some (.int (a * b)) := by
  exact if_pos (show CMul a b from .inr ⟨h1, h2⟩)
theorem gMul_l {a b : Int} (h1 : -18446744073709551616 < a) (h2 : a < 18446744073709551616) : gMul (.int a) (.int b) = some (.int (a * b)) := by
  exact if_pos (show CMul a b from .inl ⟨h1, h2⟩)
theorem gMod_p {a b : Int} (h : 0 < b) : gMod (.int a) (.int b) = some (.int (a.fmod b)) := by
  exact if_pos (show b ≠ 0 by omega)
theorem gDiv_p {a b : Int} (h : 0 < b) (h2 : b < 1073741824) : gDiv (.int a) (.int b) = some (.int (a.fdiv b)) := by
  exact if_pos (show CDivN a b from ⟨by omega, by omega⟩)
theorem gPow_l {a b : Int} (h : CPow a b) : gPow (.int a) (.int b) = some (.int (a ^ b.toNat)) := by
  exact if_pos h
theorem gPow_1018 : gPow (.int 10) (.int 18) = some (.int 1000000000000000000) := by rw [gPow_l ⟨by decide, by decide, by decide⟩]; rfl
section
variable {a b c d e f g h x : D} {r : List D}
theorem atI_0 : atI (a :: r) 0 = some a := by
  unfold atI ixN; rw [if_pos (by decide), if_pos (by simp only [List.length_cons]; omega)]; rfl
theorem atI_1 : atI (a :: b :: r) 1 = some b := by
  unfold atI ixN; rw [if_pos (by decide), if_pos (by simp only [List.length_cons]; omega)]; rfl
theorem atI_2 : atI (a :: b :: c :: r) 2 = some c := by
  unfold atI ixN; rw [if_pos (by decide), if_pos (by simp only [List.length_cons]; omega)]; rfl
theorem atI_3 : atI (a :: b :: c :: d :: r) 3 = some d := by
  unfold atI ixN; rw [if_pos (by decide), if_pos (by simp only [List.length_cons]; omega)]; rfl
theorem atI_4 : atI (a :: b :: c :: d :: e :: r) 4 = some e := by
  unfold atI ixN; rw [if_pos (by decide), if_pos (by simp only [List.length_cons]; omega)]; rfl
theorem atI_5 : atI (a :: b :: c :: d :: e :: f :: r) 5 = some f := by
  unfold atI ixN; rw [if_pos (by decide), if_pos (by simp only [List.length_cons]; omega)]; rfl
theorem atI_6 : atI (a :: b :: c :: d :: e :: f :: g :: r) 6 = some g := by
  unfold atI ixN; rw [if_pos (by decide), if_pos (by simp only [List.length_cons]; omega)]; rfl
theorem atI_7 : atI (a :: b :: c :: d :: e :: f :: g :: h :: r) 7 = some h := by
  unfold atI ixN; rw [if_pos (by decide), if_pos (by simp only [List.length_cons]; omega)]; rfl
theorem gPutL_0 : gPut (.list (a :: r)) (.int 0) x = some (.list (x :: r)) := by
  show (ixN _ _).map _ = _; unfold ixN; rw [if_pos (by decide), if_pos (by simp only [List.length_cons]; omega)]; rfl
theorem gPutL_1 : gPut (.list (a :: b :: r)) (.int 1) x = some (.list (a :: x :: r)) := by
  show (ixN _ _).map _ = _; unfold ixN; rw [if_pos (by decide), if_pos (by simp only [List.length_cons]; omega)]; rfl
theorem gPutL_2 : gPut (.list (a :: b :: c :: r)) (.int 2) x = some (.list (a :: b :: x :: r)) := by
  show (ixN _ _).map _ = _; unfold ixN; rw [if_pos (by decide), if_pos (by simp only [List.length_cons]; omega)]; rfl
theorem gPutL_3 : gPut (.list (a :: b :: c :: d :: r)) (.int 3) x = some (.list (a :: b :: c :: x :: r)) := by
  show (ixN _ _).map _ = _; unfold ixN; rw [if_pos (by decide), if_pos (by simp only [List.length_cons]; omega)]; rfl
theorem gPutL_4 : gPut (.list (a :: b :: c :: d :: e :: r)) (.int 4) x = some (.list (a :: b :: c :: d :: x :: r)) := by
  show (ixN _ _).map _ = _; unfold ixN; rw [if_pos (by decide), if_pos (by simp only [List.length_cons]; omega)]; rfl
theorem gPutL_5 : gPut (.list (a :: b :: c :: d :: e :: f :: r)) (.int 5) x = some (.list (a :: b :: c :: d :: e :: x :: r)) := by
  show (ixN _ _).map _ = _; unfold ixN; rw [if_pos (by decide), if_pos (by simp only [List.length_cons]; omega)]; rfl
theorem gPutD {kvs : List (D × D)} {i : Int} (h : kvs.length < 16777216) (hT : isT kvs = false := by first | rfl | assumption | exact isT_map (fun _ => rfl) _) : gPut (.dict kvs) (.int i) x = some (.dict (gPut.dput kvs (.inl i) x)) := if_pos ⟨hT, (show kvs.length < sizeLine by unfold sizeLine; omega)⟩
theorem gPutDs {kvs : List (D × D)} {i : Str} (h : kvs.length < 16777216) (hT : isT kvs = false := by first | rfl | assumption | exact isT_map (fun _ => rfl) _) : gPut (.dict kvs) (.str i) x = some (.dict (gPut.dput kvs (.inr i) x)) := if_pos ⟨hT, (show kvs.length < sizeLine by unfold sizeLine; omega)⟩
end
section
variable {Q : D → Prop}
theorem w_mul {a b : Int} (h : (-18446744073709551616 < a ∧ a < 18446744073709551616) ∨ (-18446744073709551616 < b ∧ b < 18446744073709551616)) (q : Q (.int (a * b))) : Wp (gMul (.int a) (.int b)) Q := by
  rcases h with h | h
  · rw [gMul_l h.1 h.2]; exact W_some.mpr q
  · rw [gMul_r h.1 h.2]; exact W_some.mpr q
theorem w_mod {a b : Int} (h : 0 < b) (q : 0 ≤ a.fmod b → a.fmod b < b → Q (.int (a.fmod b))) : Wp (gMod (.int a) (.int b)) Q := by
  rw [gMod_p h]; exact W_some.mpr (q (Int.fmod_nonneg_of_pos a h) (Int.fmod_lt_of_pos a h))
theorem w_div {a b : Int} (h : 0 < b) (h2 : b < 1073741824) (q : Q (.int (a.fdiv b))) : Wp (gDiv (.int a) (.int b)) Q := by
  rw [gDiv_p h h2]; exact W_some.mpr q
theorem wr1 {n : Int} {QL : List D → Prop} (h : n < 4611686018427387904) (h0 : -4611686018427387904 ≤ n) (q : QL (rangeD 0 n.toNat)) : Wp (gRange1 [.int n]) QL := by
  exact ⟨_, if_pos (by omega), q⟩
theorem wr2 {a b : Int} {QL : List D → Prop} (h : -4611686018427387904 ≤ a ∧ a < 4611686018427387904 ∧ -4611686018427387904 ≤ b ∧ b < 4611686018427387904) (q : QL (rangeD a (b - a).toNat)) : Wp (gRange2 [.int a, .int b]) QL := by
  exact ⟨_, if_pos (by omega), q⟩
theorem w_gLst {ds : List D} (h : ds.length ≤ 16777216) (q : Q (.list ds)) : Wp (gLstD ds) Q := by
  exact ⟨_, if_pos (by unfold sizeLine; omega), q⟩
theorem w_gTup {ds : List D} (h : ds.length ≤ 16777216) (q : Q (.tuple ds)) : Wp (gTupD ds) Q := by
  exact ⟨_, if_pos (by unfold sizeLine; omega), q⟩
theorem w_app {ds : List D} {d : D} {QD : D → D → Prop} (h : ds.length < 16777216) (q : QD .none (.list (ds ++ [d]))) : Wq (gApp (.list ds) d) QD := by
  exact ⟨_, if_pos (by unfold sizeLine; omega), q⟩
theorem w_addL {a b : List D} (h : a.length + b.length ≤ 16777216) (q : Q (.list (a ++ b))) : Wp (gAdd (.list a) (.list b)) Q := by
  exact ⟨_, if_pos (by unfold sizeLine; omega), q⟩
theorem w_addT {a b : List D} (h : a.length + b.length ≤ 16777216) (q : Q (.tuple (a ++ b))) : Wp (gAdd (.tuple a) (.tuple b)) Q := by
  exact ⟨_, if_pos (by unfold sizeLine; omega), q⟩
theorem w_addS {a b : Str} (h : a.length + b.length ≤ 16777216) (q : Q (.str (a ++ b))) : Wp (gAdd (.str a) (.str b)) Q := by
  exact ⟨_, if_pos (by unfold sizeLine; omega), q⟩
end
theorem w_putM {α : Type} {xs : List α} {e : α → D} {i : Int} {v : α} {Q : D → Prop} (h0 : 0 ≤ i) (h1 : i < xs.length) (q : Q (.list ((xs.set i.toNat v).map e))) : Wp (gPut (.list (xs.map e)) (.int i) (e v)) Q := by
  refine ⟨_, ?_, q⟩
  show (ixN (xs.map e).length i).map (fun j => PyData.list ((xs.map e).set j (e v))) = _
  unfold ixN
  rw [if_pos h0, if_pos (by simpa using h1), List.map_set]
  rfl
theorem cut_lo {ds : List D} {i : Int} (h : 0 ≤ i) : cutD ds (some i) none = ds.drop i.toNat := by
  unfold cutD HT.sIx
  simp only [if_neg (show ¬ i < 0 by omega)]
  by_cases hn : i.toNat ≤ ds.length
  · rw [Nat.min_eq_left hn, List.take_of_length_le (by simp)]
  · rw [Nat.min_eq_right (by omega), List.drop_of_length_le (by omega : ds.length ≤ ds.length), List.drop_of_length_le (by omega : ds.length ≤ i.toNat)]; simp
theorem cut_hi {ds : List D} {i : Int} (h : 0 ≤ i) : cutD ds none (some i) = ds.take i.toNat := by
  unfold cutD HT.sIx
  simp only [if_neg (show ¬ i < 0 by omega), Nat.sub_zero, List.drop_zero]
  by_cases hn : i.toNat ≤ ds.length
  · rw [Nat.min_eq_left hn]
  · rw [Nat.min_eq_right (by omega), List.take_of_length_le (by omega : ds.length ≤ ds.length), List.take_of_length_le (by omega : ds.length ≤ i.toNat)]
theorem cut_no {ds : List D} : cutD ds none none = ds := by
  unfold cutD HT.sIx
  simp
theorem perm_pick {ds left found : List D} {i : Nat} (hp : (found ++ left).Perm ds) {d : D} (hd : left[i]? = some d) : (found ++ [d] ++ (left.take i ++ left.drop (i + 1))).Perm ds := by
  obtain ⟨hi, hd⟩ := List.getElem?_eq_some_iff.mp hd
  refine List.Perm.trans ?_ hp
  rw [List.append_assoc]
  refine List.Perm.append_left _ ?_
  have : left = left.take i ++ (d :: left.drop (i + 1)) := by
    rw [← hd, ← List.drop_eq_getElem_cons hi, List.take_append_drop]
  rw [List.singleton_append]
  conv => rhs; rw [this]
  exact (List.perm_middle).symm
end PD

set_option Elab.async false
set_option linter.all false
set_option maxRecDepth 100000
set_option maxHeartbeats 2000000
/-! WPs: texts. -/
namespace PD
open PySem PySem.Spec PyProof.Rows L2 GxR GenX OwnK
def cs (z : Str) : List Nat := z.cps.toList
theorem cs_app (a b : Str) : cs (a ++ b) = cs a ++ cs b := by
  show (a.cps ++ b.cps).toList = _
  rw [Array.toList_append]; rfl
theorem cs_len (a : Str) : (cs a).length = a.length := by show a.cps.toList.length = a.cps.size; simp
theorem cs_inj {a b : Str} (h : cs a = cs b) : a = b := by
  obtain ⟨a⟩ := a; obtain ⟨b⟩ := b
  exact congrArg Str.mk (Array.toList_inj.mp h)
theorem len_app (a b : Str) : (a ++ b).length = a.length + b.length := by rw [← cs_len, cs_app, List.length_append, cs_len, cs_len]
theorem len_empty : Str.empty.length = 0 := rfl
theorem len_one (c : Nat) : Str.length ⟨#[c]⟩ = 1 := rfl
theorem ok_app {a b : Str} (ha : PyData.strOk a = true) (hb : PyData.strOk b = true) : PyData.strOk (a ++ b) = true := by
  show (a.cps ++ b.cps).all _ = true
  rw [Array.all_append]
  exact Bool.and_eq_true_iff.mpr ⟨ha, hb⟩
theorem ok_iff {a : Str} : PyData.strOk a = true ↔ ∀ c ∈ cs a, c < 0x110000 := by
  show a.cps.all _ = true ↔ _
  rw [← Array.all_toList, List.all_eq_true]
  exact ⟨fun h c hc => by simpa using h c hc, fun h c hc => by simpa using h c hc⟩
theorem ok_cut {a : Str} (h : PyData.strOk a = true) (lo hi : Option Int) : PyData.strOk (cutS a lo hi) = true := by
  rw [ok_iff] at *
  intro c hc
  exact h c (List.mem_of_mem_drop (List.mem_of_mem_take hc))
theorem len_cut (a : Str) (lo hi : Option Int) : (cutS a lo hi).length ≤ a.length := by
  rw [← cs_len, ← cs_len]
  show List.length (List.take _ (List.drop _ _)) ≤ _
  rw [List.length_take, List.length_drop]
  show _ ≤ a.cps.toList.length
  omega
theorem ok_one {a : Str} {c : Nat} {i : Nat} (h : (cs a)[i]? = some c) (ha : PyData.strOk a = true) : PyData.strOk ⟨#[c]⟩ = true := by
  rw [ok_iff] at *
  intro d hd
  have e : d = c := by simpa [cs] using hd
  rw [e]
  exact ha c (List.mem_of_getElem? h)
theorem ok_join {zs : List Str} (h : ∀ z ∈ zs, PyData.strOk z = true) : PyData.strOk (Txt.join "" zs) = true := by
  rw [TL.join_eq]
  induction zs with
  | nil => decide +kernel
  | cons z r ih =>
    cases r with
    | nil => exact h z List.mem_cons_self
    | cons y r => exact ok_app (ok_app (h z List.mem_cons_self) (by decide +kernel)) (ih fun z hz => h z (List.mem_cons_of_mem _ hz))
theorem len_join (zs : List Str) : (Txt.join "" zs).length = (zs.map (·.length)).sum := by
  rw [TL.join_eq]
  induction zs with
  | nil => rfl
  | cons z r ih =>
    cases r with
    | nil => simp [Str.join]
    | cons y r =>
      show (z ++ "" ++ Str.join "" (y :: r)).length = _
      rw [len_app, len_app, ih]
      show z.length + 0 + _ = _
      simp
theorem strsOf_map (zs : List Str) : strsOf (zs.map .str) = some zs := by
  induction zs with
  | nil => rfl
  | cons z r ih => show (strsOf (r.map .str)).map (z :: ·) = _; rw [ih]; rfl
theorem len_strF : ∀ k : Fin 100, (Str.ofString (toString ((k.val : Nat) : Int))).length ≤ 2 := by decide +kernel
theorem len_str100 {i : Int} (h0 : 0 ≤ i) (h1 : i < 100) : (Str.ofString (toString i)).length ≤ 2 := by
  have := len_strF ⟨i.toNat, by omega⟩
  rwa [show ((i.toNat : Nat) : Int) = i by omega] at this
theorem ok_strF : ∀ k : Fin 100, PyData.strOk (Str.ofString (toString ((k.val : Nat) : Int))) = true := by decide +kernel
theorem ok_str100 {i : Int} (h0 : 0 ≤ i) (h1 : i < 100) : PyData.strOk (Str.ofString (toString i)) = true := by
  have := ok_strF ⟨i.toNat, by omega⟩
  rwa [show ((i.toNat : Nat) : Int) = i by omega] at this
section
variable {Q : D → Prop}
theorem w_eqS {a b : Str} (r : Bool) (h : (PyData.strOk a && PyData.strOk b && (decide (a = b) == r)) = true) (q : Q (.bool r)) : Wp (gEq (.str a) (.str b)) Q := by
  simp only [Bool.and_eq_true, beq_iff_eq] at h
  exact ⟨_, gEq_ss h.1.1 h.1.2, h.2 ▸ q⟩
theorem w_eq {α : Type} {o : Option α} {a : α} {Q : α → Prop} (h : o = some a) (q : Q a) : Wp o Q := ⟨a, h, q⟩
theorem w_lookT {β : Type} {a b : Str} {v : β} {r : List (Str × β)} {Q : β → Prop} (h : (a == b) = true) (q : Q v) : Wp (List.lookup a ((b, v) :: r)) Q := ⟨v, by rw [List.lookup_cons, h], q⟩
theorem w_lookF {β : Type} {a b : Str} {v : β} {r : List (Str × β)} {Q : β → Prop} (h : (a == b) = false) (q : Wp (List.lookup a r) Q) : Wp (List.lookup a ((b, v) :: r)) Q := by
  obtain ⟨z, e, q⟩ := q
  exact ⟨z, by rw [List.lookup_cons, h]; exact e, q⟩
theorem allInts_map (ns : List Int) : allInts (ns.map .int) = some ns := by
  induction ns with
  | nil => rfl
  | cons n r ih => show (allInts (r.map .int)).map (n :: ·) = _; rw [ih]; rfl
theorem w_lenSet {ns : List Int} (h : ns.length < 4000) (q : Q (.int (distI ns : Nat))) : Wp (gLenSet (.tuple (ns.map .int))) Q := by
  refine ⟨_, ?_, q⟩
  show (allInts (ns.map .int)).bind _ = _
  rw [allInts_map]
  exact if_pos (show ns.length + 1 < scanBound by unfold scanBound; omega)
theorem w_tcount {ns : List Int} {k : Int} (q : Q (.int (ns.count k : Nat))) : Wp (gTCount (.tuple (ns.map .int)) (.int k)) Q := by
  refine ⟨_, ?_, q⟩
  show (allInts (ns.map .int)).map _ = _
  rw [allInts_map]; rfl
theorem w_sum {ns : List Int} (q : Q (.int ns.sum)) : Wp (gSum [.list (ns.map .int)]) Q := by
  refine ⟨_, ?_, q⟩
  show (allInts (ns.map .int)).map _ = _
  rw [allInts_map]; rfl
theorem w_sorted {ns : List Int} (q : Q (.list ((sortI ns).map .int))) : Wp (gSorted [.list (ns.map .int)]) Q := by
  refine ⟨_, ?_, q⟩
  show (allInts (ns.map .int)).map _ = _
  rw [allInts_map]; rfl
theorem distI_nd : ∀ ns : List Int, (distI ns = ns.length ↔ ns.Nodup) ∧ distI ns ≤ ns.length
  | [] => ⟨by simp [distI], Nat.le_refl _⟩
  | n :: r => by
    have ⟨h1, h2⟩ := distI_nd r
    unfold distI
    by_cases h : n ∈ r
    · rw [if_pos h]
      refine ⟨⟨fun e => ?_, fun e => absurd h (List.nodup_cons.mp e).1⟩, by simp; omega⟩
      simp at e; omega
    · rw [if_neg h]
      refine ⟨⟨fun e => List.nodup_cons.mpr ⟨h, h1.mp (by simpa using e)⟩, fun e => ?_⟩, by simpa using h2⟩
      rw [List.length_cons, h1.mpr (List.nodup_cons.mp e).2]
theorem w_join {zs : List Str} (h : (zs.map (·.length)).sum ≤ 16777216) (q : Q (.str (Txt.join "" zs))) : Wp (gJoin (.str "") (.list (zs.map .str))) Q := by
  refine ⟨_, ?_, q⟩
  show gJoinB "" (zs.map .str) = _
  unfold gJoinB
  rw [strsOf_map]
  exact if_pos (by show _ + _ * 0 ≤ _; omega)
theorem w_ixS {z : Str} {i : Int} (h : z.length ≤ 16777216) (h0 : 0 ≤ i) (h1 : i < z.length) (q : ∀ c, (cs z)[i.toNat]? = some c → Q (.str ⟨#[c]⟩)) : Wp (gIx (.str z) (.int i)) Q := by
  show Wp (if z.length ≤ sizeLine then (atI z.cps.toList i).map fun c => PyData.str ⟨#[c]⟩ else none) Q
  rw [if_pos (show z.length ≤ sizeLine by unfold sizeLine; omega)]
  refine W_map.mpr ?_
  unfold atI ixN
  have hl : z.cps.toList.length = z.length := cs_len z
  rw [if_pos h0, hl, if_pos h1]
  have h : i.toNat < z.cps.toList.length := by omega
  exact ⟨z.cps.toList[i.toNat], by simp [h], q _ (by show z.cps.toList[i.toNat]? = _; simp [h])⟩
theorem w_slS {z : Str} {lo hi : Option Int} (h : z.length ≤ 16777216) (q : Q (.str (cutS z lo hi))) : Wp (gSl lo hi (.str z)) Q := ⟨_, if_pos (show z.length ≤ sizeLine by unfold sizeLine; omega), q⟩
theorem log2_lt {i : Int} (h0 : -1000000000 < i) (h1 : i < 1000000000) : i.natAbs.log2 < 1920 := by
  by_cases h : i.natAbs = 0
  · rw [h]; decide
  · rw [Nat.log2_lt h]
    exact Nat.lt_of_lt_of_le (show i.natAbs < 2 ^ 30 by omega) (Nat.pow_le_pow_right (by decide) (by decide))
theorem w_str {i : Int} (h0 : -1000000000 < i) (h1 : i < 1000000000) (q : Q (.str (toString i))) : Wp (gStr [.int i]) Q := ⟨_, if_pos (log2_lt h0 h1), q⟩
end
end PD

set_option Elab.async false
set_option linter.all false
set_option maxRecDepth 100000
set_option maxHeartbeats 2000000
/-! WPd: lists of numbers as written, dicts of numbers, texts in lists. -/
namespace PD
open PySem PySem.Spec PyProof.Rows L2 GxR GenX OwnK
def allI (P : Int → Prop) : List D → Prop
  | [] => True
  | .int w :: r => P w ∧ allI P r
  | _ :: _ => False
theorem allI_mem {P : Int → Prop} : ∀ {ds : List D}, allI P ds → ∀ d ∈ ds, ∃ w, d = .int w ∧ P w
  | [], _, d, h => by cases h
  | e :: r, h, d, hd => by
    cases e with
    | int w =>
      rcases List.mem_cons.mp hd with hd | hd
      · exact ⟨w, hd, h.1⟩
      · exact allI_mem h.2 d hd
    | _ => exact h.elim
section
variable {Q : D → Prop}
theorem w_ixI (P : Int → Prop) {ds : List D} {i : Int} (h : allI P ds) (h0 : 0 ≤ i) (h1 : i < ds.length) (q : ∀ w, P w → Q (.int w)) : Wp (atI ds i) Q :=
  W_atI h0 h1 fun d hd => by
    obtain ⟨w, rfl, hw⟩ := allI_mem h d (List.mem_of_getElem? hd)
    exact q w hw
theorem allI_int {ds : List D} (h : allI (fun _ => True) ds) : ∀ d ∈ ds, ∃ w, d = .int w := fun d hd => let ⟨w, e, _⟩ := allI_mem h d hd; ⟨w, e⟩
theorem w_sortedD {kvs : List (D × D)} {ks : List Int} (h : kvs.map (·.1) = ks.map .int) (h64 : ks.length < 64) (q : Q (.list ((sortI ks).map .int))) : Wp (gSorted [.dict kvs]) Q := by
  refine ⟨_, ?_, q⟩
  show (allInts (kvs.map (·.1))).bind _ = _
  rw [h, allInts_map]
  exact if_pos h64
theorem noDs_str (zs : List Str) : noDs (zs.map .str) = true := by
  induction zs with
  | nil => rfl
  | cons z r ih => show (noD (.str z) && noDs (r.map .str)) = true; rw [ih]; rfl
theorem lay_str {zs : List Str} (h : ∀ z ∈ zs, PyData.strOk z = true) : PyData.canLayAll0 (zs.map .str) = true := by
  induction zs with
  | nil => simp [PyData.canLayAll0]
  | cons z r ih =>
    have h1 := h z List.mem_cons_self
    have h2 := ih fun z hz => h z (List.mem_cons_of_mem _ hz)
    simp [PyData.canLayAll0, PyData.canLay0, h1, h2]
theorem depth_str (zs : List Str) : PyData.depthAll (zs.map .str) = 0 := by
  induction zs with
  | nil => simp [PyData.depthAll]
  | cons z r ih => simp [PyData.depthAll, PyData.depth, ih]
theorem okE_str {z : Str} (h : PyData.strOk z = true) : okE (.str z) = true := by
  unfold okE SeqAt.shaped
  simp [noD, PyData.canLay0, h, PyData.depth]
theorem okE_strs {zs : List Str} (h : ∀ z ∈ zs, PyData.strOk z = true) : okE (.list (zs.map .str)) = true := by
  unfold okE SeqAt.shaped
  simp [noD, PyData.canLay0, lay_str h, PyData.depth, depth_str, noDs_str]
theorem w_eqNil {zs : List Str} (h : ∀ z ∈ zs, PyData.strOk z = true) (q : Q (.bool zs.isEmpty)) : Wp (gEq (.list (zs.map .str)) (.list [])) Q := by
  refine ⟨_, if_pos ?_, ?_⟩
  · rw [okE_strs h, show okE (.list []) = true by decide]; rfl
  · have : PyData.eqv (.list (zs.map .str)) (.list []) = zs.isEmpty := by
      cases zs <;> simp [PyData.eqv, PyData.eqvAll]
    rw [this]; exact q
theorem any_str {x : Str} {zs : List Str} : ((zs.map PyData.str).any fun z => PyData.eqv z (.str x)) = decide (x ∈ zs) := by
  rw [Bool.eq_iff_iff, List.any_eq_true, decide_eq_true_eq]
  constructor
  · intro ⟨d, hd, e⟩
    obtain ⟨z, hz, rfl⟩ := List.mem_map.mp hd
    simp only [PyData.eqv, beq_iff_eq] at e
    exact e ▸ hz
  · intro h
    exact ⟨.str x, List.mem_map.mpr ⟨x, h, rfl⟩, by simp [PyData.eqv]⟩
theorem w_notInS {x : Str} {zs : List Str} (hx : PyData.strOk x = true) (h : ∀ z ∈ zs, PyData.strOk z = true) (q : Q (.bool (!decide (x ∈ zs)))) : Wp (gNotIn (.str x) (.list (zs.map .str))) Q := by
  refine ⟨_, ?_, q⟩
  show (if (okE (.str x) && okE (.list (zs.map .str))) = true then some ((zs.map PyData.str).any fun z => PyData.eqv z (.str x)) else none).map _ = _
  rw [okE_str hx, okE_strs h, if_pos (show (true && true) = true from rfl), any_str]
  rfl
theorem w_inS {x : Str} {zs : List Str} (hx : PyData.strOk x = true) (h : ∀ z ∈ zs, PyData.strOk z = true) (q : Q (.bool (decide (x ∈ zs)))) : Wp (gIn (.str x) (.list (zs.map .str))) Q := by
  refine ⟨_, ?_, q⟩
  show (if (okE (.str x) && okE (.list (zs.map .str))) = true then some ((zs.map PyData.str).any fun z => PyData.eqv z (.str x)) else none).map _ = _
  rw [okE_str hx, okE_strs h, if_pos (show (true && true) = true from rfl), any_str]
  rfl
end
/-! data that == and in take -/
def okM (n : Nat) (d : D) : Prop := noD d = true ∧ d.canLay0 = true ∧ d.depth ≤ n
theorem okM.okE {n : Nat} {d : D} (h : okM n d) (hn : n ≤ 64) : okE d = true := by
  unfold PD.okE SeqAt.shaped
  rw [h.1, h.2.1, decide_eq_true (Nat.le_trans h.2.2 hn)]; rfl
theorem okM.mono {n m : Nat} {d : D} (h : okM n d) (hn : n ≤ m) : okM m d := ⟨h.1, h.2.1, Nat.le_trans h.2.2 hn⟩
theorem okM_int (n : Nat) (i : Int) : okM n (.int i) := ⟨rfl, by simp [PyData.canLay0], by simp [PyData.depth]⟩
theorem okM_bool (n : Nat) (i : Bool) : okM n (.bool i) := ⟨rfl, by simp [PyData.canLay0], by simp [PyData.depth]⟩
theorem okM_none (n : Nat) : okM n .none := ⟨rfl, by simp [PyData.canLay0], by simp [PyData.depth]⟩
theorem okM_str (n : Nat) {z : Str} (h : PyData.strOk z = true) : okM n (.str z) := ⟨rfl, by simp [PyData.canLay0, h], by simp [PyData.depth]⟩
theorem okM_all {n : Nat} : ∀ {ds : List D}, (∀ d ∈ ds, okM n d) → noDs ds = true ∧ PyData.canLayAll0 ds = true ∧ PyData.depthAll ds ≤ n
  | [], _ => ⟨rfl, by simp [PyData.canLayAll0], by simp [PyData.depthAll]⟩
  | d :: r, h => by
    have h1 := h d List.mem_cons_self
    have h2 := okM_all (ds := r) fun e he => h e (List.mem_cons_of_mem _ he)
    refine ⟨?_, by simp [PyData.canLayAll0, h1.2.1, h2.2.1], by simp only [PyData.depthAll]; exact Nat.max_le.mpr ⟨h1.2.2, h2.2.2⟩⟩
    show (noD d && noDs r) = true
    rw [h1.1, h2.1]; rfl
theorem okM_tup {n : Nat} {ds : List D} (h : ∀ d ∈ ds, okM n d) : okM (n + 1) (.tuple ds) := by
  have := okM_all h
  exact ⟨this.1, by simp [PyData.canLay0, this.2.1], by simp [PyData.depth]; exact this.2.2⟩
theorem okM_lst {n : Nat} {ds : List D} (h : ∀ d ∈ ds, okM n d) : okM (n + 1) (.list ds) := by
  have := okM_all h
  exact ⟨this.1, by simp [PyData.canLay0, this.2.1], by simp [PyData.depth]; exact this.2.2⟩
theorem okM_map {α : Type} {n : Nat} {xs : List α} {e : α → D} (h : ∀ x ∈ xs, okM n (e x)) : ∀ d ∈ xs.map e, okM n d := fun d hd => by
  obtain ⟨x, hx, rfl⟩ := List.mem_map.mp hd
  exact h x hx
theorem w_notInM {α : Type} {n : Nat} {x : D} {xs : List α} {e : α → D} {Q : D → Prop} (hn : n ≤ 60) (hx : okM n x) (h : ∀ y ∈ xs, okM n (e y)) (q : Q (.bool (!(xs.any fun y => PyData.eqv (e y) x)))) : Wp (gNotIn x (.list (xs.map e))) Q := by
  refine ⟨_, ?_, q⟩
  show (if (okE x && okE (.list (xs.map e))) = true then some ((xs.map e).any fun z => PyData.eqv z x) else none).map _ = _
  rw [hx.okE (by omega), (okM_lst (okM_map h)).okE (by omega), if_pos (show (true && true) = true from rfl), List.any_map]
  rfl
theorem w_inM {α : Type} {n : Nat} {x : D} {xs : List α} {e : α → D} {Q : D → Prop} (hn : n ≤ 60) (hx : okM n x) (h : ∀ y ∈ xs, okM n (e y)) (q : Q (.bool (xs.any fun y => PyData.eqv (e y) x))) : Wp (gIn x (.list (xs.map e))) Q := by
  refine ⟨_, ?_, q⟩
  show (if (okE x && okE (.list (xs.map e))) = true then some ((xs.map e).any fun z => PyData.eqv z x) else none).map _ = _
  rw [hx.okE (by omega), (okM_lst (okM_map h)).okE (by omega), if_pos (show (true && true) = true from rfl), List.any_map]
  rfl
theorem w_inT {α : Type} {n : Nat} {x : D} {xs : List α} {e : α → D} {Q : D → Prop} (hn : n ≤ 60) (hx : okM n x) (h : ∀ y ∈ xs, okM n (e y)) (q : Q (.bool (xs.any fun y => PyData.eqv (e y) x))) : Wp (gIn x (.tuple (xs.map e))) Q := by
  refine ⟨_, ?_, q⟩
  show (if (okE x && okE (.tuple (xs.map e))) = true then some ((xs.map e).any fun z => PyData.eqv z x) else none).map _ = _
  rw [hx.okE (by omega), (okM_tup (okM_map h)).okE (by omega), if_pos (show (true && true) = true from rfl), List.any_map]
  rfl
theorem w_notInT {α : Type} {n : Nat} {x : D} {xs : List α} {e : α → D} {Q : D → Prop} (hn : n ≤ 60) (hx : okM n x) (h : ∀ y ∈ xs, okM n (e y)) (q : Q (.bool (!(xs.any fun y => PyData.eqv (e y) x)))) : Wp (gNotIn x (.tuple (xs.map e))) Q := by
  refine ⟨_, ?_, q⟩
  show (if (okE x && okE (.tuple (xs.map e))) = true then some ((xs.map e).any fun z => PyData.eqv z x) else none).map _ = _
  rw [hx.okE (by omega), (okM_tup (okM_map h)).okE (by omega), if_pos (show (true && true) = true from rfl), List.any_map]
  rfl
mutual
theorem eqv_self : ∀ (d : D), noD d = true → PyData.eqv d d = true
  | .none, _ => by simp [PyData.eqv]
  | .bool b, _ => by simp [PyData.eqv]
  | .int b, _ => by simp [PyData.eqv]
  | .str b, _ => by simp [PyData.eqv]
  | .list ds, h => by simp [PyData.eqv]; exact eqv_selfs ds h
  | .tuple ds, h => by simp [PyData.eqv]; exact eqv_selfs ds h
  | .dict _, h => by cases h
theorem eqv_selfs : ∀ (ds : List D), noDs ds = true → PyData.eqvAll ds ds = true
  | [], _ => by simp [PyData.eqvAll]
  | d :: r, h => by
    have h : (noD d && noDs r) = true := h
    rw [Bool.and_eq_true] at h
    simp [PyData.eqvAll, eqv_self d h.1, eqv_selfs r h.2]
end
theorem w_listRange {n : Int} {Q : D → Prop} (h0 : 0 ≤ n) (h1 : n < 16777216) (q : Q (.list (rangeD 0 n.toNat))) : Wp (gListRange (.int n)) Q := ⟨_, if_pos (by unfold RgOk; omega), q⟩
def rangeI (lo : Int) (n : Nat) : List Int := (List.range n).map fun i => lo + (i : Nat)
theorem rangeD_I (lo : Int) (n : Nat) : rangeD lo n = (rangeI lo n).map .int := by unfold rangeD rangeI; rw [List.map_map]; rfl
theorem rangeI_len (lo : Int) (n : Nat) : (rangeI lo n).length = n := by unfold rangeI; simp
theorem rangeI_mem {lo v : Int} {n : Nat} (h : v ∈ rangeI lo n) : lo ≤ v ∧ v < lo + n := by
  unfold rangeI at h
  obtain ⟨i, hi, rfl⟩ := List.mem_map.mp h
  have := List.mem_range.mp hi
  omega
theorem seqQ_mono {R K : Rho → Prop} {Q : Out → Prop} (h : ∀ ρ, R ρ → K ρ) (o : Out) (z : seqQ R Q o) : seqQ K Q o := by
  cases o with
  | nx ρ => exact h ρ z
  | _ => exact z
/-- behind an if, by what holds there -/
theorem bcs_cut {g : Bool} {A B : MS} {ρ1 ρ2 : Rho} {K : Rho → Prop} {Q : Out → Prop} (R : Rho → Prop) (h1 : g = true → Wp (A ρ1) (seqQ R Q)) (h2 : g = false → Wp (B ρ2) (seqQ R Q)) (hR : ∀ ρ, R ρ → K ρ) : bcs g (Wp (A ρ1) (seqQ K Q)) (Wp (B ρ2) (seqQ K Q)) :=
  ⟨fun e => (h1 e).mono (seqQ_mono hR), fun e => (h2 e).mono (seqQ_mono hR)⟩
end PD

set_option Elab.async false
set_option linter.all false
set_option maxRecDepth 100000
set_option maxHeartbeats 2000000
/-! WPu: what PDt to PDw add: zip, enumerate, [..] * n, displays, two places put. -/
namespace PD
open PySem PySem.Spec PyProof.Rows L2 GxR GenX OwnK
section
variable {α β γ : Type} {f : α → D} {g : β → D} {h : γ → D} {xs : List α} {ys : List β} {zs : List γ} {Q : List D → Prop}
theorem zip3_map : ∀ (xs : List α) (ys : List β) (zs : List γ), List.zipWith (fun u (p : D × D) => PyData.tuple [u, p.1, p.2]) (xs.map f) ((ys.map g).zip (zs.map h)) = (xs.zip (ys.zip zs)).map fun p => .tuple [f p.1, g p.2.1, h p.2.2]
  | [], _, _ => rfl
  | _ :: _, [], _ => rfl
  | _ :: _, _ :: _, [] => rfl
  | x :: xs, y :: ys, z :: zs => congrArg (_ :: ·) (zip3_map xs ys zs)
theorem zip2_map : List.zipWith (fun u v => PyData.tuple [u, v]) (xs.map f) (ys.map g) = (xs.zip ys).map fun p => .tuple [f p.1, g p.2] := by
  rw [List.zipWith_map, List.zip, List.map_zipWith]
theorem enum_map : List.zipWith (fun (i : Nat) u => PyData.tuple [.int i, u]) (List.range (xs.map f).length) (xs.map f) = ((List.range xs.length).zip xs).map fun p => .tuple [.int (p.1 : Nat), f p.2] := by
  rw [List.length_map, ← List.map_id (List.range xs.length), List.zipWith_map, List.zip, List.map_zipWith, List.map_id]
  rfl
theorem wz3 {a b c : D} (h1 : gItems a = some (xs.map f)) (h2 : gItems b = some (ys.map g)) (h3 : gItems c = some (zs.map h)) (q : Q ((xs.zip (ys.zip zs)).map fun p => .tuple [f p.1, g p.2.1, h p.2.2])) : Wp (gZip [a, b, c]) Q := by
  simp only [gZip, h1, h2, h3, W_some, zip3_map]
  exact q
theorem wz2 {a b : D} (h1 : gItems a = some (xs.map f)) (h2 : gItems b = some (ys.map g)) (q : Q ((xs.zip ys).map fun p => .tuple [f p.1, g p.2])) : Wp (gZip [a, b]) Q := by
  simp only [gZip, h1, h2, W_some, zip2_map]
  exact q
theorem wen {a : D} (h1 : gItems a = some (xs.map f)) (q : Q (((List.range xs.length).zip xs).map fun p => .tuple [.int (p.1 : Nat), f p.2])) : Wp (gEnum [a]) Q := by
  simp only [gEnum, h1, W_some, enum_map]
  exact q
end
theorem w_rep {ds : List D} {n : Int} {Q : D → Prop} (h0 : 0 ≤ n) (h1 : n ≤ 10000) (h2 : ds.length ≤ 1000) (q : Q (.list (List.replicate n.toNat ds).flatten)) : Wp (gRep (.list ds) (.int n)) Q := by
  have e : gRep (.list ds) (.int n) = if -(2 ^ 63) ≤ n ∧ n < 2 ^ 63 ∧ ds.length * n.toNat ≤ sizeLine then some (.list (List.replicate n.toNat ds).flatten) else none := rfl
  rw [e]
  have : ds.length * n.toNat ≤ 1000 * 10000 := Nat.mul_le_mul h2 (by omega)
  rw [if_pos ⟨by omega, by omega, by unfold sizeLine; omega⟩]
  exact W_some.mpr q
def tup2Q (K : D → D → Prop) [Tg K] : D → Prop
  | .tuple [a, b] => K a b
  | _ => False
theorem tup2Q_eq {K : D → D → Prop} {a b : D} : tup2Q K (.tuple [a, b]) ↔ K a b := Iff.rfl
theorem q_put2 {i : Nat} {mk1 mk2 m : M D} {ρ : Rho} {QS : Out → Prop} : Wp (mPut2 i mk1 mk2 m ρ) QS ↔ Wq (m ρ) fun d ρ1 => tup2Q (fun a b => Wp (mPut i mk1 (fun r => some (a, r)) ρ1) fun o => seqQ (fun ρ2 => Wp (mPut i mk2 (fun r => some (b, r)) ρ2) QS) (fun _ => False) o) d := by
  unfold mPut2 Wq
  cases m ρ with
  | none => simp [W_none]
  | some r =>
    obtain ⟨d, ρ1⟩ := r
    simp only [W_some]
    split
    · rename_i e
      cases e
      simp only [tup2Q]
      cases h : mPut i mk1 (fun r => some (_, r)) _ with
      | none => simp [W_none]
      | some out =>
        obtain ⟨ρ', rfl⟩ := mPut_nx h
        simp only [W_some, seqQ_nx]
    · rename_i h
      unfold tup2Q
      split
      · exact absurd rfl (h _ _ _)
      · simp [W_none]
end PD

set_option Elab.async false
set_option linter.all false
set_option maxRecDepth 100000
set_option maxHeartbeats 2000000
/-! WPv: pure rules for dicts with tuples of ints for keys, max of one thing, rows of ints. -/
namespace PD
open PySem PySem.Spec PyProof.Rows L2 GxR GenX OwnK
section
variable {ρ : Rho} {QS : Out → Prop} {Q : D → Prop}
theorem q_putT {i : Nat} {mk mv : M D} : Wp (mPutT i mk mv ρ) QS ↔ Wq (mv ρ) fun v ρ1 => ownQ (fun o => Wq (mk ρ1) fun k ρ2 => Wp (gPutT o k v) fun o' => QS (.nx (ρ2.set i (some (true, o'))))) (ρ1[i]?) := by
  unfold mPutT Wq
  cases mv ρ with
  | none => simp [W_none]
  | some v =>
    simp only [W_some]
    split
    · rename_i o e
      rw [e]
      simp only [ownQ]
      cases mk v.2 with
      | none => simp [W_none]
      | some k =>
        simp only [W_some]
        cases gPutT o k.1 v.1 <;> simp [W_some, W_none]
    · rename_i h
      unfold ownQ
      split
      · rename_i o e; exact absurd e (h o)
      · simp [W_none]
def eT (p : List Int × D) : D × D := (.tuple (p.1.map .int), p.2)
/-- the dict of these entries -/
def tdOf : List (List Int × D) → D
  | [] => .dict []
  | p :: r => tdD ((p :: r).map eT)
def getL (fd : List (List Int × D)) (k : List Int) : Option D := (fd.find? fun p => decide (p.1 = k)).map (·.2)
def putL (fd : List (List Int × D)) (k : List Int) (d : D) : List (List Int × D) := if (getL fd k).isSome then fd.map (fun p => if p.1 = k then (p.1, d) else p) else fd ++ [(k, d)]
theorem tdE_of (fd : List (List Int × D)) : tdE (tdOf fd) = some (fd.map eT) := by cases fd <;> rfl
theorem dgetT_map (k : List Int) : ∀ fd : List (List Int × D), dgetT (fd.map eT) k = getL fd k
  | [] => rfl
  | p :: r => by
    rw [List.map_cons]
    unfold getL dgetT eT
    rw [keyT_ints, List.find?_cons]
    by_cases h : p.1 = k
    · simp [h]
    · simp only [Option.some.injEq, h, if_false, decide_false]
      exact dgetT_map k r
theorem tdD_of {l : List (List Int × D)} (h : l ≠ []) : tdD (l.map eT) = tdOf l := by
  cases l with
  | nil => exact absurd rfl h
  | cons p r => rfl
theorem putL_ne (fd : List (List Int × D)) (k : List Int) (d : D) : putL fd k d ≠ [] := by
  unfold putL
  split
  · rename_i h
    cases fd with
    | nil => simp [getL] at h
    | cons p r => simp
  · simp
theorem dputT_map (fd : List (List Int × D)) (k : List Int) (d : D) : dputT (fd.map eT) k d = (putL fd k d).map eT := by
  unfold dputT putL
  rw [dgetT_map]
  split
  · rw [List.map_map, List.map_map]
    refine List.map_congr_left fun p _ => ?_
    simp only [Function.comp, eT, keyT_ints, Option.some.injEq]
    by_cases h : p.1 = k <;> simp [h]
  · rw [List.map_append]; rfl
theorem putL_len (fd : List (List Int × D)) (k : List Int) (d : D) : (putL fd k d).length ≤ fd.length + 1 := by
  unfold putL
  split <;> simp
theorem putL_mem {fd : List (List Int × D)} {k : List Int} {d : D} {p : List Int × D} (h : p ∈ putL fd k d) : p ∈ fd ∨ (p.1 = k ∧ p.2 = d) := by
  unfold putL at h
  split at h
  · obtain ⟨q, hq, rfl⟩ := List.mem_map.mp h
    by_cases e : q.1 = k
    · rw [if_pos e]; exact .inr ⟨e, rfl⟩
    · rw [if_neg e]; exact .inl hq
  · rcases List.mem_append.mp h with h | h
    · exact .inl h
    · rw [List.mem_singleton.mp h]; exact .inr ⟨rfl, rfl⟩
theorem w_putT {fd : List (List Int × D)} {k : List Int} {d : D} (h : fd.length < 16777216) (q : Q (tdOf (putL fd k d))) : Wp (gPutT (tdOf fd) (.tuple (k.map .int)) d) Q := by
  refine ⟨_, ?_, q⟩
  unfold gPutT
  rw [keyT_ints, tdE_of]
  show (if (fd.map eT).length < sizeLine then some (tdD (dputT (fd.map eT) k d)) else none) = _
  rw [if_pos (by rw [List.length_map]; unfold sizeLine; omega), dputT_map, tdD_of (putL_ne fd k d)]
theorem w_inTd {fd : List (List Int × D)} {k : List Int} (q : Q (.bool (getL fd k).isSome)) : Wp (gInT (.tuple (k.map .int)) (tdOf fd)) Q := by
  refine ⟨_, ?_, q⟩
  unfold gInT
  rw [keyT_ints, tdE_of, ← dgetT_map]
theorem w_notInTd {fd : List (List Int × D)} {k : List Int} (q : Q (.bool (!(getL fd k).isSome))) : Wp (gNotInT (.tuple (k.map .int)) (tdOf fd)) Q := by
  refine ⟨_, ?_, q⟩
  unfold gNotInT
  rw [keyT_ints, tdE_of, ← dgetT_map]
theorem w_ixTd {fd : List (List Int × D)} {k : List Int} {d : D} (h : getL fd k = some d) (q : Q d) : Wp (gIxT (tdOf fd) (.tuple (k.map .int))) Q := by
  refine ⟨_, ?_, q⟩
  unfold gIxT
  rw [keyT_ints, tdE_of]
  show dgetT (fd.map eT) k = _
  rw [dgetT_map, h]
theorem w_lenTd {fd : List (List Int × D)} (q : Q (.int fd.length)) : Wp (gLenT [tdOf fd]) Q := by
  refine ⟨_, ?_, q⟩
  show (tdE (tdOf fd)).map _ = _
  rw [tdE_of]
  simp
theorem keysT_map : ∀ fd : List (List Int × D), keysT (fd.map eT) = some (fd.map (·.1))
  | [] => rfl
  | p :: r => by
    rw [List.map_cons]
    unfold keysT eT
    rw [keyT_ints]
    have := keysT_map r
    unfold eT at this
    rw [this]; rfl
theorem w_sortedTd {fd : List (List Int × D)} {n : Nat} (h : okS n (fd.map (·.1))) (q : Q (.list ((sortT (fd.map (·.1))).map tupI))) : Wp (gSortedT [tdOf fd]) Q := by
  refine ⟨_, ?_, q⟩
  unfold gSortedT
  simp only [tdE_of, keysT_map]
  rw [if_pos]
  cases fd with
  | nil => exact ⟨by decide, by decide, by simp⟩
  | cons p r =>
    have e : p.1.length = n := (h.2.2 p.1 (by simp)).1
    show okS p.1.length _
    rw [e]; exact h
theorem w_maxT {ns : List Int} (h : 0 < ns.length) (q : ∀ m, m ∈ ns → (∀ y ∈ ns, y ≤ m) → Q (.int m)) : Wp (gMax1 [.tuple (ns.map .int)]) Q := by
  cases ns with
  | nil => exact absurd h (by decide)
  | cons n r =>
    obtain ⟨_, M, e, h1, h2⟩ := maxO_spec (ns := n :: r) rfl
    refine ⟨_, ?_, q M h1 h2⟩
    show (allInts ((n :: r).map .int)).bind maxO = _
    rw [allInts_map]
    exact congrArg some e
theorem w_maxL {ns : List Int} (h : 0 < ns.length) (q : ∀ m, m ∈ ns → (∀ y ∈ ns, y ≤ m) → Q (.int m)) : Wp (gMax1 [.list (ns.map .int)]) Q := by
  cases ns with
  | nil => exact absurd h (by decide)
  | cons n r =>
    obtain ⟨_, M, e, h1, h2⟩ := maxO_spec (ns := n :: r) rfl
    refine ⟨_, ?_, q M h1 h2⟩
    show (allInts ((n :: r).map .int)).bind maxO = _
    rw [allInts_map]
    exact congrArg some e
end
/-! ### rows of ints -/
theorem eqv_ints : ∀ a b : List Int, PyData.eqvAll (a.map .int) (b.map .int) = decide (a = b)
  | [], [] => by simp [PyData.eqvAll]
  | [], _ :: _ => by simp [PyData.eqvAll]
  | _ :: _, [] => by simp [PyData.eqvAll]
  | x :: a, y :: b => by
    rw [List.map_cons, List.map_cons]
    simp only [PyData.eqvAll, eqv_ints a b]
    by_cases h : x = y <;> by_cases h2 : a = b <;> simp [PyData.eqv, h, h2]
theorem eqv_row (a b : List Int) : PyData.eqv (.tuple (a.map .int)) (.tuple (b.map .int)) = decide (a = b) := by
  simp only [PyData.eqv]
  exact eqv_ints a b
theorem okM_row (n : Nat) (r : List Int) : okM (n + 1) (.tuple (r.map .int)) := okM_tup (okM_map fun _ _ => okM_int n _)
theorem any_row {x : List Int} {rows : List (List Int)} : (rows.any fun y => PyData.eqv (.tuple (y.map .int)) (.tuple (x.map .int))) = decide (x ∈ rows) := by
  rw [Bool.eq_iff_iff, List.any_eq_true, decide_eq_true_eq]
  constructor
  · rintro ⟨y, hy, e⟩
    rw [eqv_row, decide_eq_true_eq] at e
    exact e ▸ hy
  · intro h
    exact ⟨x, h, by rw [eqv_row]; simp⟩
theorem w_eqRow {a b : List Int} {Q : D → Prop} (q : Q (.bool (decide (a = b)))) : Wp (gEq (.tuple (a.map .int)) (.tuple (b.map .int))) Q := by
  refine ⟨_, if_pos ?_, ?_⟩
  · rw [(okM_row 0 a).okE (by decide), (okM_row 0 b).okE (by decide)]; rfl
  · rw [eqv_row]; exact q
theorem any_int {x : Int} {ns : List Int} : (ns.any fun y => PyData.eqv (.int y) (.int x)) = decide (x ∈ ns) := by
  rw [Bool.eq_iff_iff, List.any_eq_true, decide_eq_true_eq]
  constructor
  · rintro ⟨y, hy, e⟩
    simp only [PyData.eqv, beq_iff_eq] at e
    exact e ▸ hy
  · intro h
    exact ⟨x, h, by simp [PyData.eqv]⟩
theorem w_inI {x : Int} {ns : List Int} {Q : D → Prop} (q : Q (.bool (decide (x ∈ ns)))) : Wp (gIn (.int x) (.list (ns.map .int))) Q := by
  refine w_inM (n := 3) (by decide) (okM_int _ _) (fun _ _ => okM_int _ _) ?_
  rw [any_int]; exact q
theorem w_inIT {x : Int} {ns : List Int} {Q : D → Prop} (q : Q (.bool (decide (x ∈ ns)))) : Wp (gIn (.int x) (.tuple (ns.map .int))) Q := by
  refine w_inT (n := 3) (by decide) (okM_int _ _) (fun _ _ => okM_int _ _) ?_
  rw [any_int]; exact q
theorem w_eqB {a b : Bool} {Q : D → Prop} (q : Q (.bool (a == b))) : Wp (gEq (.bool a) (.bool b)) Q := by
  cases a <;> cases b <;> exact ⟨_, if_pos (by decide), by simpa [PyData.eqv] using q⟩
theorem w_listRangeI {n : Int} {Q : D → Prop} (h0 : 0 ≤ n) (h1 : n < 16777216) (q : Q (.list ((rangeI 0 n.toNat).map .int))) : Wp (gListRange (.int n)) Q := w_listRange h0 h1 (by rw [rangeD_I]; exact q)
end PD

set_option Elab.async false
set_option linter.all false
set_option maxRecDepth 100000
set_option maxHeartbeats 2000000
/-! WPw: pure rules for dict comprehensions with tuples of ints for keys, list + list. -/
namespace PD
open PySem PySem.Spec PyProof.Rows L2 GxR GenX OwnK
def putAllL (ps : List (List Int × D)) (fd : List (List Int × D)) : List (List Int × D) := ps.foldl (fun fd p => putL fd p.1 p.2) fd
theorem tdC_map (l : List (List Int × D)) : tdC (l.map eT) = tdOf l := by cases l <;> rfl
section
variable {ρ : Rho}
theorem q_dcTo {mi : M (List D)} {g : D → Rho → Option Rho} {mt : M Bool} {mk mv : M D} {vs : List Nat} {K : D → Rho → Prop} : Wq (mDcT mi g mt mk mv vs ρ) K ↔ Wq (mi ρ) fun ds ρ1 => Wq (dcLT g mt mk mv vs ds [] (wipeR ρ1 vs)) fun s ρ2 => K (tdC s) (wipeR ρ2 vs) := by
  unfold mDcT Wq
  cases mi ρ with
  | none => simp [W_none]
  | some r =>
    simp only [W_some]
    cases dcLT g mt mk mv vs r.1 [] (wipeR r.2 vs) <;> simp [W_some, W_none]
theorem w_dcT {g : D → Rho → Option Rho} {mk mv : M D} {vs : List Nat} {α : Type} {K : List (D × D) → Rho → Prop} (e : α → D) (J : Rho → Prop) (p : α → List Int × D) : ∀ (xs : List α) (fd : List (List Int × D)) (ρ : Rho), fd.length + xs.length < 16777216 → J ρ →
    (∀ x ∈ xs, ∀ ρ, J ρ → Wp (g (e x) ρ) fun ρ1 => Wq (mk ρ1) fun kd ρ3 => Wq (mv ρ3) fun y ρ4 => keyT kd = some (p x).1 ∧ y = (p x).2 ∧ J (wipeR ρ4 vs)) →
    (∀ ρ, J ρ → K ((putAllL (xs.map p) fd).map eT) ρ) → Wq (dcLT g mYes mk mv vs (xs.map e) (fd.map eT) ρ) K
  | [], fd, ρ, _, hJ, _, hq => q_some.mpr (hq ρ hJ)
  | x :: r, fd, ρ, hl, hJ, hs, hq => by
    obtain ⟨ρ1, e1, ⟨kd, ρ3⟩, e2, ⟨y, ρ4⟩, e3, h1, h2, h3⟩ := hs x List.mem_cons_self ρ hJ
    have h2 : y = (p x).2 := h2
    have h1 : keyT kd = some (p x).1 := h1
    rw [List.map_cons]
    have hlen : (fd.map eT).length < sizeLine := by
      rw [List.length_map]
      simp only [List.length_cons] at hl
      unfold sizeLine; omega
    have e0 : dcLT g mYes mk mv vs (e x :: r.map e) (fd.map eT) ρ = dcLT g mYes mk mv vs (r.map e) (dputT (fd.map eT) (p x).1 y) (wipeR ρ4 vs) := by
      conv => lhs; unfold dcLT
      rw [e1]
      simp only [mYes, e2, e3, h1, if_pos hlen]
    rw [e0, dputT_map, h2]
    refine w_dcT e J p r (putL fd (p x).1 (p x).2) _ ?_ h3 (fun z hz => hs z (List.mem_cons_of_mem _ hz)) fun ρ h => ?_
    · have := putL_len fd (p x).1 (p x).2
      simp only [List.length_cons] at hl
      omega
    · exact hq ρ h
end
theorem w_eqNilI {ns : List Int} {Q : D → Prop} (q : Q (.bool ns.isEmpty)) : Wp (gEq (.list (ns.map .int)) (.list [])) Q := by
  refine ⟨_, if_pos ?_, ?_⟩
  · rw [(okM_lst (okM_map (xs := ns) fun _ _ => okM_int 0 _)).okE (by decide), show okE (.list []) = true by decide]; rfl
  · have : PyData.eqv (.list (ns.map .int)) (.list []) = ns.isEmpty := by
      cases ns <;> simp [PyData.eqv, PyData.eqvAll]
    rw [this]; exact q
theorem w_addLN {a b : List D} {Q : D → Prop} (h : a.length + b.length ≤ 16777216) (q : Q (.list (a ++ b))) : Wp (gAddN (.list a) (.list b)) Q := ⟨_, if_pos (by unfold sizeLine; omega), q⟩
end PD

set_option Elab.async false
set_option linter.all false
set_option maxRecDepth 100000
set_option maxHeartbeats 2000000
/-! End: the end of a law on data, with the tables of its defs. -/
namespace PD
open PySem PySem.Spec PyProof.Rows L2 GxR GenX OwnK
/-- the tables of the defs that stand at the top are empty -/
def TabsOf (q : Program) (K : PySem.W.Frag) (h : Heap) : Prop := ∀ (x : Str) (c P : Addr), ((recsOf q).any fun e => e.name == x) = true → PySem.W.tabIn K x = some (c, P) → PySem.W.CodeHd h c P ∧ h.get? P = some { cls := .none, data := .fields #[] }
theorem walk_ofTabs {l : PySem.W.OpenLaw} {n k : Nat} {q : Program} {loose : List Str} {XP : (Str → Option Value) → Heap → Prop} {YP : World → Heap → Prop} {d : DefRec} {K : Params → PySem.W.Frag} {CX : World → CXT} {x : Str}
    (hn : l.most = some n) (hn2 : n ≤ sizeLine) (hdf : d.params.defaults = []) (hr : Room k callerA) (hY : ∀ (w : World) (h : Heap), YP w h → (K w.params).In h)
    (F : ∀ (w : World) (mg : Str → Option Value) (fa : Addr) (h : Heap), (K w.params).In h → h.Ns mainGlobals mg → mg d.name = some (.ref fa) → TabsOf q (K w.params) h → LamX.LawAtS l w (K w.params) (CX w) k n x mg fa h)
    (hCX : ∀ (w : World) (H : Hp) (s : Shared) (e : Value) (s' : Shared), CX w [] H s (fun _ _ _ => False) e s' → False) :
    PySem.W.WalkO q loose XP YP l.row.toRowW d [] (fun f vs => PySem.call f vs) := by
  refine Att.attach_callB hn hdf fun w s₀ s₁ mg mb fa o pm cd doc a vs ns G Y ho hd hcd hmg hobj hints hlen hbits hg => ?_
  have KX := hY w _ Y
  have tb : TabsOf q (K w.params) s₁.heap := fun x c P hx ht => by
    obtain ⟨dL, hm, hn1⟩ := List.any_eq_true.mp hx
    cases hf : (recsOf q).find? (fun e : DefRec => e.name == x) with
    | none => exact absurd hn1 (by simpa using List.find?_eq_none.mp hf dL hm)
    | some d' => exact PySem.W.tab_of G.T KX hf ht
  obtain ⟨fd, cs, sp, hT, nT, C, hb, hsp, hF⟩ := F w mg fa _ KX G.T.g hmg tb
  exact LamX.law_callTs KX G.T.g G.T.b G.T.builtins G.T.nolimit hg hT nT C G.T.bmain hobj hints (Nat.le_trans hlen hn2) hr hF hb (fun H hH hS => hsp H a ns hlen hbits hH hS) fun H e s' => hCX w H s₁ e s'
theorem rels_ints2 {K : PySem.W.Frag} {S : Addr → Prop} {H : Hp} : ∀ ns : List Int, RelDs K S H (ns.map V.int) (ns.map .int)
  | [] => .nil
  | n :: r => .cons (.int n) (rels_ints2 r)
theorem law_sp {K : PySem.W.Frag} {T : List Addr} {n : Nat} {f : List D → Option (D × List D)} (hf : ∀ ns : List Int, ns.length ≤ n → ∃ es, f [.list (ns.map .int)] = some (.bool true, es) ∧ es.length = 1) (H : Hp) (a : Addr) (ns : List Int) (hl : ns.length ≤ n)
    (hT : ∀ P ∈ T, H P = some (.tbl #[])) (hS : SqL K H a (ns.map V.int)) : spD K T [] 1 f [.ref a] H (fun v _ => v = .bl true) fun _ _ _ => False := by
  obtain ⟨es, e, h1⟩ := hf ns hl
  have hr : RelD K (fun _ => False) H (.ref a) (.list (ns.map .int)) := by
    rcases hS with h | h
    · exact .lst (fun z => z) h (rels_ints2 ns)
    · exact .lstK h (rels_ints2 ns)
  refine ⟨fun _ => False, fun _ => a, [.list (ns.map .int)], .bool true, es, e, rfl, h1, ⟨rfl, fun j v d e1 e2 => ⟨(fun z => absurd z List.not_mem_nil), (fun _ => ?_)⟩, (fun j z => absurd z List.not_mem_nil), (fun i z => absurd z List.not_mem_nil)⟩, fun _ z => z.elim, fun P hP => ⟨_, hT P hP, ?_⟩, fun v H' _ _ r => ?_⟩
  · cases j with
    | zero => cases e1; cases e2; exact hr
    | succ j => cases e1
  · exact trivial
  · cases r; rfl
theorem tabIn_of {K : PySem.W.Frag} {x : Str} {f c t : Addr} {oc ve : Value} {od vd : Option Addr} {fd : FuncData} {sl vl : Array (Option Value)} {vs : Array Value} (a : PySem.W.nsIn K mainGlobals x = some (some (.ref f))) (l : K.lookup f = some ⟨oc, od, .func fd, sl⟩) (hc : fd.code = .ref c) (v : K.lookup c = some ⟨ve, vd, .fields vs, vl⟩) (q : vs[11]? = some (.ref t)) : PySem.W.tabIn K x = some (c, t) := by
  unfold PySem.W.tabIn
  simp only [a, l, hc, v, q]
end PD

set_option Elab.async false
set_option linter.all false
set_option maxRecDepth 100000
set_option maxHeartbeats 4000000
namespace K05W
open PySem PySem.Spec PyProof.Rows L2 GxR GenX OwnK PD
def top (i : Nat) : Stmt := PySem.Challenge.pw_aswritten_k05_products_aheads_and_machin.main.body.getD i (.Pass ⟨0, 0, 0, 0⟩)
abbrev s_weighed : Stmt := top 3
abbrev N_weighed : List Str := ["terms", "at", "term"]
abbrev P_weighed : List Str := ["terms", "at"]
theorem sc_weighed : FnScope N_weighed P_weighed (defScope s_weighed) := ⟨rfl, rfl, rfl, by decide +kernel, rfl, by decide +kernel, by decide +kernel⟩
abbrev s_values_at : Stmt := top 4
abbrev N_values_at : List Str := ["names", "at", "name"]
abbrev P_values_at : List Str := ["names", "at"]
theorem sc_values_at : FnScope N_values_at P_values_at (defScope s_values_at) := ⟨rfl, rfl, rfl, by decide +kernel, rfl, by decide +kernel, by decide +kernel⟩
abbrev s_holds_product : Stmt := top 13
abbrev N_holds_product : List Str := ["saying", "at"]
abbrev P_holds_product : List Str := ["saying", "at"]
theorem sc_holds_product : FnScope N_holds_product P_holds_product (defScope s_holds_product) := ⟨rfl, rfl, rfl, by decide +kernel, rfl, by decide +kernel, by decide +kernel⟩
abbrev s_holds_ahead : Stmt := top 14
abbrev N_holds_ahead : List Str := ["saying", "at"]
abbrev P_holds_ahead : List Str := ["saying", "at"]
theorem sc_holds_ahead : FnScope N_holds_ahead P_holds_ahead (defScope s_holds_ahead) := ⟨rfl, rfl, rfl, by decide +kernel, rfl, by decide +kernel, by decide +kernel⟩
abbrev s_stand_of_machine : Stmt := top 15
abbrev N_stand_of_machine : List Str := ["saying", "at", "steps", "moves", "stand", "name", "move"]
abbrev P_stand_of_machine : List Str := ["saying", "at", "steps"]
theorem sc_stand_of_machine : FnScope N_stand_of_machine P_stand_of_machine (defScope s_stand_of_machine) := ⟨rfl, rfl, rfl, by decide +kernel, rfl, by decide +kernel, by decide +kernel⟩
abbrev s_holds_machine : Stmt := top 17
abbrev N_holds_machine : List Str := ["saying", "at", "stand"]
abbrev P_holds_machine : List Str := ["saying", "at"]
theorem sc_holds_machine : FnScope N_holds_machine P_holds_machine (defScope s_holds_machine) := ⟨rfl, rfl, rfl, by decide +kernel, rfl, by decide +kernel, by decide +kernel⟩
abbrev s_saying_holds : Stmt := top 23
abbrev N_saying_holds : List Str := ["saying", "at"]
abbrev P_saying_holds : List Str := ["saying", "at"]
theorem sc_saying_holds : FnScope N_saying_holds P_saying_holds (defScope s_saying_holds) := ⟨rfl, rfl, rfl, by decide +kernel, rfl, by decide +kernel, by decide +kernel⟩
abbrev s_said_in : Stmt := top 25
abbrev N_said_in : List Str := ["model", "said", "name", "saying", "_"]
abbrev P_said_in : List Str := ["model"]
theorem sc_said_in : FnScope N_said_in P_said_in (defScope s_said_in) := ⟨rfl, rfl, rfl, by decide +kernel, rfl, by decide +kernel, by decide +kernel⟩
abbrev s_filling_dict : Stmt := top 26
abbrev N_filling_dict : List Str := ["model", "filling", "place"]
abbrev P_filling_dict : List Str := ["model", "filling"]
theorem sc_filling_dict : FnScope N_filling_dict P_filling_dict (defScope s_filling_dict) := ⟨rfl, rfl, rfl, by decide +kernel, rfl, by decide +kernel, by decide +kernel⟩
abbrev s_keeps_saying : Stmt := top 27
abbrev N_keeps_saying : List Str := ["model", "name", "filling"]
abbrev P_keeps_saying : List Str := ["model", "name", "filling"]
theorem sc_keeps_saying : FnScope N_keeps_saying P_keeps_saying (defScope s_keeps_saying) := ⟨rfl, rfl, rfl, by decide +kernel, rfl, by decide +kernel, by decide +kernel⟩
abbrev s_keeps : Stmt := top 28
abbrev N_keeps : List Str := ["model", "filling", "at", "_", "saying"]
abbrev P_keeps : List Str := ["model", "filling"]
theorem sc_keeps : FnScope N_keeps P_keeps (defScope s_keeps) := ⟨rfl, rfl, rfl, by decide +kernel, rfl, by decide +kernel, by decide +kernel⟩
abbrev s__law_mixed : Stmt := top 30
abbrev N__law_mixed : List Str := ["number", "k", "first", "second"]
abbrev P__law_mixed : List Str := ["number", "k"]
theorem sc__law_mixed : FnScope N__law_mixed P__law_mixed (defScope s__law_mixed) := ⟨rfl, rfl, rfl, by decide +kernel, rfl, by decide +kernel, by decide +kernel⟩
abbrev s__law_start : Stmt := top 31
abbrev N__law_start : List Str := ["script", "seed", "cell"]
abbrev P__law_start : List Str := ["script"]
theorem sc__law_start : FnScope N__law_start P__law_start (defScope s__law_start) := ⟨rfl, rfl, rfl, by decide +kernel, rfl, by decide +kernel, by decide +kernel⟩
abbrev s__law_take : Stmt := top 32
abbrev N__law_take : List Str := ["state", "limit", "cells", "cell", "value"]
abbrev P__law_take : List Str := ["state", "limit"]
theorem sc__law_take : FnScope N__law_take P__law_take (defScope s__law_take) := ⟨rfl, rfl, rfl, by decide +kernel, rfl, by decide +kernel, by decide +kernel⟩
abbrev s__law_pick : Stmt := top 33
abbrev N__law_pick : List Str := ["state", "some"]
abbrev P__law_pick : List Str := ["state", "some"]
theorem sc__law_pick : FnScope N__law_pick P__law_pick (defScope s__law_pick) := ⟨rfl, rfl, rfl, by decide +kernel, rfl, by decide +kernel, by decide +kernel⟩
abbrev s__law_shuffled : Stmt := top 34
abbrev N__law_shuffled : List Str := ["state", "some", "left", "found", "k", "at"]
abbrev P__law_shuffled : List Str := ["state", "some"]
theorem sc__law_shuffled : FnScope N__law_shuffled P__law_shuffled (defScope s__law_shuffled) := ⟨rfl, rfl, rfl, by decide +kernel, rfl, by decide +kernel, by decide +kernel⟩
abbrev s__law_names : Stmt := top 35
abbrev N__law_names : List Str := ["state", "many", "signs", "style", "start", "step", "word", "one", "two", "found", "k", "first", "name"]
abbrev P__law_names : List Str := ["state", "many"]
theorem sc__law_names : FnScope N__law_names P__law_names (defScope s__law_names) := ⟨rfl, rfl, rfl, by decide +kernel, rfl, by decide +kernel, by decide +kernel⟩
abbrev s__law_is_due : Stmt := top 36
abbrev N__law_is_due : List Str := ["told", "due"]
abbrev P__law_is_due : List Str := ["told", "due"]
theorem sc__law_is_due : FnScope N__law_is_due P__law_is_due (defScope s__law_is_due) := ⟨rfl, rfl, rfl, by decide +kernel, rfl, by decide +kernel, by decide +kernel⟩
abbrev s__law_fillings : Stmt := top 37
abbrev N__law_fillings : List Str := ["doms", "rows", "pair", "longer", "row", "v"]
abbrev P__law_fillings : List Str := ["doms"]
theorem sc__law_fillings : FnScope N__law_fillings P__law_fillings (defScope s__law_fillings) := ⟨rfl, rfl, rfl, by decide +kernel, rfl, by decide +kernel, by decide +kernel⟩
abbrev s__law_world : Stmt := top 38
abbrev N__law_world : List Str := ["doms", "filling", "at", "k"]
abbrev P__law_world : List Str := ["doms", "filling"]
theorem sc__law_world : FnScope N__law_world P__law_world (defScope s__law_world) := ⟨rfl, rfl, rfl, by decide +kernel, rfl, by decide +kernel, by decide +kernel⟩
abbrev s__law_near : Stmt := top 39
abbrev N__law_near : List Str := ["state", "doms", "base", "row", "k", "at"]
abbrev P__law_near : List Str := ["state", "doms", "base"]
theorem sc__law_near : FnScope N__law_near P__law_near (defScope s__law_near) := ⟨rfl, rfl, rfl, by decide +kernel, rfl, by decide +kernel, by decide +kernel⟩
abbrev s__law_walk : Stmt := top 42
abbrev N__law_walk : List Str := ["saying", "at", "here", "x", "after", "move"]
abbrev P__law_walk : List Str := ["saying", "at"]
theorem sc__law_walk : FnScope N__law_walk P__law_walk (defScope s__law_walk) := ⟨rfl, rfl, rfl, by decide +kernel, rfl, by decide +kernel, by decide +kernel⟩
abbrev s__law_holds : Stmt := top 43
abbrev N__law_holds : List Str := ["saying", "at", "here", "k", "one", "other"]
abbrev P__law_holds : List Str := ["saying", "at"]
theorem sc__law_holds : FnScope N__law_holds P__law_holds (defScope s__law_holds) := ⟨rfl, rfl, rfl, by decide +kernel, rfl, by decide +kernel, by decide +kernel⟩
abbrev s__law_are_held : Stmt := top 40
abbrev N__law_are_held : List Str := ["state", "doms", "firm", "soft", "fillings", "prices", "model", "filling", "at", "whole", "k", "name", "saying", "due", "told", "one"]
abbrev P__law_are_held : List Str := ["state", "doms", "firm", "soft", "fillings"]
theorem sc__law_are_held : FnScope N__law_are_held P__law_are_held (defScope s__law_are_held) := ⟨rfl, rfl, rfl, by decide +kernel, rfl, by decide +kernel, by decide +kernel⟩
abbrev s__law_parted : Stmt := top 41
abbrev N__law_parted : List Str := ["state", "made", "at", "cut", "firm", "one"]
abbrev P__law_parted : List Str := ["state", "made", "at"]
theorem sc__law_parted : FnScope N__law_parted P__law_parted (defScope s__law_parted) := ⟨rfl, rfl, rfl, by decide +kernel, rfl, by decide +kernel, by decide +kernel⟩
abbrev s__law_machine : Stmt := top 44
abbrev N__law_machine : List Str := ["state", "doms", "at", "xs", "stands", "start", "found", "here", "x", "values", "k", "key", "ends", "pair", "q"]
abbrev P__law_machine : List Str := ["state", "doms", "at"]
theorem sc__law_machine : FnScope N__law_machine P__law_machine (defScope s__law_machine) := ⟨rfl, rfl, rfl, by decide +kernel, rfl, by decide +kernel, by decide +kernel⟩
abbrev s__law_saying : Stmt := top 45
abbrev N__law_saying : List Str := ["state", "kind", "doms", "at", "many", "row", "one", "rest", "other", "x", "like", "small", "fit", "pair", "y"]
abbrev P__law_saying : List Str := ["state", "kind", "doms", "at"]
theorem sc__law_saying : FnScope N__law_saying P__law_saying (defScope s__law_saying) := ⟨rfl, rfl, rfl, by decide +kernel, rfl, by decide +kernel, by decide +kernel⟩
abbrev s__law_times : Stmt := top 46
abbrev N__law_times : List Str := ["state", "doms", "sizes", "found", "k", "v"]
abbrev P__law_times : List Str := ["state", "doms", "sizes"]
theorem sc__law_times : FnScope N__law_times P__law_times (defScope s__law_times) := ⟨rfl, rfl, rfl, by decide +kernel, rfl, by decide +kernel, by decide +kernel⟩
abbrev s__law_by_turns : Stmt := top 47
abbrev N__law_by_turns : List Str := ["state", "doms", "made", "firm", "soft", "fillings", "base", "few", "turned", "k"]
abbrev P__law_by_turns : List Str := ["state", "doms", "made", "firm", "soft", "fillings", "base"]
theorem sc__law_by_turns : FnScope N__law_by_turns P__law_by_turns (defScope s__law_by_turns) := ⟨rfl, rfl, rfl, by decide +kernel, rfl, by decide +kernel, by decide +kernel⟩
abbrev s_law : Stmt := top 48
abbrev N_law : List Str := ["script", "state", "great", "sizes", "names", "low", "doms", "k", "near", "order", "base", "at", "kinds", "made", "parted", "fillings", "v", "pair"]
abbrev P_law : List Str := ["script"]
theorem sc_law : FnScope N_law P_law (defScope s_law) := ⟨rfl, rfl, rfl, by decide +kernel, rfl, by decide +kernel, by decide +kernel⟩
/-- where the defs stand, their code objects, their tables -/
structure Ad where
  a_weighed : Addr
  c_weighed : Addr
  a_values_at : Addr
  c_values_at : Addr
  a_holds_product : Addr
  c_holds_product : Addr
  a_holds_ahead : Addr
  c_holds_ahead : Addr
  a_stand_of_machine : Addr
  c_stand_of_machine : Addr
  a_holds_machine : Addr
  c_holds_machine : Addr
  a_saying_holds : Addr
  c_saying_holds : Addr
  a_said_in : Addr
  c_said_in : Addr
  a_filling_dict : Addr
  c_filling_dict : Addr
  a_keeps_saying : Addr
  c_keeps_saying : Addr
  a_keeps : Addr
  c_keeps : Addr
  a__law_mixed : Addr
  c__law_mixed : Addr
  a__law_start : Addr
  c__law_start : Addr
  a__law_take : Addr
  c__law_take : Addr
  a__law_pick : Addr
  c__law_pick : Addr
  a__law_shuffled : Addr
  c__law_shuffled : Addr
  a__law_names : Addr
  c__law_names : Addr
  a__law_is_due : Addr
  c__law_is_due : Addr
  a__law_fillings : Addr
  c__law_fillings : Addr
  a__law_world : Addr
  c__law_world : Addr
  a__law_near : Addr
  c__law_near : Addr
  a__law_walk : Addr
  c__law_walk : Addr
  a__law_holds : Addr
  c__law_holds : Addr
  a__law_are_held : Addr
  c__law_are_held : Addr
  a__law_parted : Addr
  c__law_parted : Addr
  a__law_machine : Addr
  c__law_machine : Addr
  a__law_saying : Addr
  c__law_saying : Addr
  a__law_times : Addr
  c__law_times : Addr
  a__law_by_turns : Addr
  c__law_by_turns : Addr
  a_law : Addr
  c_law : Addr
  t_weighed : Addr
  t_keeps : Addr
  d_HOLDS : Addr
def Ad.tabs (a : Ad) : List Addr := [a.t_weighed, a.t_keeps]
def ga_keeps_model_filling : List D → List D := fun ws => match ws with | [w0, w1] => [w0, w1] | _ => ([] : List D)
def gg_keeps_model_filling : List Value → List Value → List Value := fun us ws => match us, ws with | [], [w0, w1] => [w0, w1] | _, _ => ([] : List Value)
def gV_keeps_model_filling : List V → List V → List V := fun us ws => match us, ws with | [], [w0, w1] => [w0, w1] | _, _ => ([] : List V)
theorem gaR_keeps_model_filling : ∀ (R : V → D → Prop) (vs : List V) (ds : List D), Paired R vs ds → Paired R (gV_keeps_model_filling [] vs) (ga_keeps_model_filling ds) := fun R vs ds r => by
  unfold gV_keeps_model_filling ga_keeps_model_filling
  cases r with
  | nil => exact .nil
  | cons a0 r =>
    cases r with
    | nil => exact .nil
    | cons a1 r =>
      cases r with
      | nil => exact (.cons a0 (.cons a1 .nil))
      | cons _ _ => exact .nil
theorem gaL_keeps_model_filling : ∀ ds : List D, ds.length = 2 → (ga_keeps_model_filling ds).length = P_keeps.length := fun ds h => by
  match ds, h with
  | [_, _], _ => rfl
def ga_keeps_saying_model_name_filling : List D → List D := fun ws => match ws with | [w0, w1, w2] => [w0, w1, w2] | _ => ([] : List D)
def gg_keeps_saying_model_name_filling : List Value → List Value → List Value := fun us ws => match us, ws with | [], [w0, w1, w2] => [w0, w1, w2] | _, _ => ([] : List Value)
def gV_keeps_saying_model_name_filling : List V → List V → List V := fun us ws => match us, ws with | [], [w0, w1, w2] => [w0, w1, w2] | _, _ => ([] : List V)
theorem gaR_keeps_saying_model_name_filling : ∀ (R : V → D → Prop) (vs : List V) (ds : List D), Paired R vs ds → Paired R (gV_keeps_saying_model_name_filling [] vs) (ga_keeps_saying_model_name_filling ds) := fun R vs ds r => by
  unfold gV_keeps_saying_model_name_filling ga_keeps_saying_model_name_filling
  cases r with
  | nil => exact .nil
  | cons a0 r =>
    cases r with
    | nil => exact .nil
    | cons a1 r =>
      cases r with
      | nil => exact .nil
      | cons a2 r =>
        cases r with
        | nil => exact (.cons a0 (.cons a1 (.cons a2 .nil)))
        | cons _ _ => exact .nil
theorem gaL_keeps_saying_model_name_filling : ∀ ds : List D, ds.length = 3 → (ga_keeps_saying_model_name_filling ds).length = P_keeps_saying.length := fun ds h => by
  match ds, h with
  | [_, _, _], _ => rfl
structure Fd where
  d_weighed : FuncData
  d_values_at : FuncData
  d_holds_product : FuncData
  d_holds_ahead : FuncData
  d_stand_of_machine : FuncData
  d_holds_machine : FuncData
  d_saying_holds : FuncData
  d_said_in : FuncData
  d_filling_dict : FuncData
  d_keeps_saying : FuncData
  d_keeps : FuncData
  d__law_mixed : FuncData
  d__law_start : FuncData
  d__law_take : FuncData
  d__law_pick : FuncData
  d__law_shuffled : FuncData
  d__law_names : FuncData
  d__law_is_due : FuncData
  d__law_fillings : FuncData
  d__law_world : FuncData
  d__law_near : FuncData
  d__law_walk : FuncData
  d__law_holds : FuncData
  d__law_are_held : FuncData
  d__law_parted : FuncData
  d__law_machine : FuncData
  d__law_saying : FuncData
  d__law_times : FuncData
  d__law_by_turns : FuncData
  d_law : FuncData
/-- what the walk asks of the top -/
structure Txt (w : World) (K : PySem.W.Frag) (mg : Str → Option Value) (base : Heap) (a : Ad) (d : Fd) : Prop where
  F_weighed : FunC K "weighed" "weighed" s_weighed a.a_weighed d.d_weighed a.c_weighed
  k_weighed : PySem.W.keepIn K (.ref a.a_weighed) = true
  b_weighed : Binds K d.d_weighed P_weighed []
  m_weighed : mg "weighed" = some (.ref a.a_weighed)
  h_weighed : TabB base mg a.c_weighed a.t_weighed
  F_values_at : FunC K "values_at" "values_at" s_values_at a.a_values_at d.d_values_at a.c_values_at
  k_values_at : PySem.W.keepIn K (.ref a.a_values_at) = true
  b_values_at : Binds K d.d_values_at P_values_at []
  m_values_at : mg "values_at" = some (.ref a.a_values_at)
  F_holds_product : FunC K "holds_product" "holds_product" s_holds_product a.a_holds_product d.d_holds_product a.c_holds_product
  k_holds_product : PySem.W.keepIn K (.ref a.a_holds_product) = true
  b_holds_product : Binds K d.d_holds_product P_holds_product []
  m_holds_product : mg "holds_product" = some (.ref a.a_holds_product)
  F_holds_ahead : FunC K "holds_ahead" "holds_ahead" s_holds_ahead a.a_holds_ahead d.d_holds_ahead a.c_holds_ahead
  k_holds_ahead : PySem.W.keepIn K (.ref a.a_holds_ahead) = true
  b_holds_ahead : Binds K d.d_holds_ahead P_holds_ahead []
  m_holds_ahead : mg "holds_ahead" = some (.ref a.a_holds_ahead)
  F_stand_of_machine : FunC K "stand_of_machine" "stand_of_machine" s_stand_of_machine a.a_stand_of_machine d.d_stand_of_machine a.c_stand_of_machine
  k_stand_of_machine : PySem.W.keepIn K (.ref a.a_stand_of_machine) = true
  b_stand_of_machine : Binds K d.d_stand_of_machine P_stand_of_machine []
  m_stand_of_machine : mg "stand_of_machine" = some (.ref a.a_stand_of_machine)
  F_holds_machine : FunC K "holds_machine" "holds_machine" s_holds_machine a.a_holds_machine d.d_holds_machine a.c_holds_machine
  k_holds_machine : PySem.W.keepIn K (.ref a.a_holds_machine) = true
  b_holds_machine : Binds K d.d_holds_machine P_holds_machine []
  m_holds_machine : mg "holds_machine" = some (.ref a.a_holds_machine)
  F_saying_holds : FunC K "saying_holds" "saying_holds" s_saying_holds a.a_saying_holds d.d_saying_holds a.c_saying_holds
  k_saying_holds : PySem.W.keepIn K (.ref a.a_saying_holds) = true
  b_saying_holds : Binds K d.d_saying_holds P_saying_holds []
  m_saying_holds : mg "saying_holds" = some (.ref a.a_saying_holds)
  F_said_in : FunC K "said_in" "said_in" s_said_in a.a_said_in d.d_said_in a.c_said_in
  k_said_in : PySem.W.keepIn K (.ref a.a_said_in) = true
  b_said_in : Binds K d.d_said_in P_said_in []
  m_said_in : mg "said_in" = some (.ref a.a_said_in)
  F_filling_dict : FunC K "filling_dict" "filling_dict" s_filling_dict a.a_filling_dict d.d_filling_dict a.c_filling_dict
  k_filling_dict : PySem.W.keepIn K (.ref a.a_filling_dict) = true
  b_filling_dict : Binds K d.d_filling_dict P_filling_dict []
  m_filling_dict : mg "filling_dict" = some (.ref a.a_filling_dict)
  F_keeps_saying : FunC K "keeps_saying" "keeps_saying" s_keeps_saying a.a_keeps_saying d.d_keeps_saying a.c_keeps_saying
  k_keeps_saying : PySem.W.keepIn K (.ref a.a_keeps_saying) = true
  b_keeps_saying : Binds K d.d_keeps_saying P_keeps_saying []
  m_keeps_saying : mg "keeps_saying" = some (.ref a.a_keeps_saying)
  F_keeps : FunC K "keeps" "keeps" s_keeps a.a_keeps d.d_keeps a.c_keeps
  k_keeps : PySem.W.keepIn K (.ref a.a_keeps) = true
  b_keeps : Binds K d.d_keeps P_keeps []
  m_keeps : mg "keeps" = some (.ref a.a_keeps)
  h_keeps : TabB base mg a.c_keeps a.t_keeps
  F__law_mixed : FunC K "_law_mixed" "_law_mixed" s__law_mixed a.a__law_mixed d.d__law_mixed a.c__law_mixed
  k__law_mixed : PySem.W.keepIn K (.ref a.a__law_mixed) = true
  b__law_mixed : Binds K d.d__law_mixed P__law_mixed []
  m__law_mixed : mg "_law_mixed" = some (.ref a.a__law_mixed)
  F__law_start : FunC K "_law_start" "_law_start" s__law_start a.a__law_start d.d__law_start a.c__law_start
  k__law_start : PySem.W.keepIn K (.ref a.a__law_start) = true
  b__law_start : Binds K d.d__law_start P__law_start []
  m__law_start : mg "_law_start" = some (.ref a.a__law_start)
  F__law_take : FunC K "_law_take" "_law_take" s__law_take a.a__law_take d.d__law_take a.c__law_take
  k__law_take : PySem.W.keepIn K (.ref a.a__law_take) = true
  b__law_take : Binds K d.d__law_take P__law_take []
  m__law_take : mg "_law_take" = some (.ref a.a__law_take)
  F__law_pick : FunC K "_law_pick" "_law_pick" s__law_pick a.a__law_pick d.d__law_pick a.c__law_pick
  k__law_pick : PySem.W.keepIn K (.ref a.a__law_pick) = true
  b__law_pick : Binds K d.d__law_pick P__law_pick []
  m__law_pick : mg "_law_pick" = some (.ref a.a__law_pick)
  F__law_shuffled : FunC K "_law_shuffled" "_law_shuffled" s__law_shuffled a.a__law_shuffled d.d__law_shuffled a.c__law_shuffled
  k__law_shuffled : PySem.W.keepIn K (.ref a.a__law_shuffled) = true
  b__law_shuffled : Binds K d.d__law_shuffled P__law_shuffled []
  m__law_shuffled : mg "_law_shuffled" = some (.ref a.a__law_shuffled)
  F__law_names : FunC K "_law_names" "_law_names" s__law_names a.a__law_names d.d__law_names a.c__law_names
  k__law_names : PySem.W.keepIn K (.ref a.a__law_names) = true
  b__law_names : Binds K d.d__law_names P__law_names []
  m__law_names : mg "_law_names" = some (.ref a.a__law_names)
  F__law_is_due : FunC K "_law_is_due" "_law_is_due" s__law_is_due a.a__law_is_due d.d__law_is_due a.c__law_is_due
  k__law_is_due : PySem.W.keepIn K (.ref a.a__law_is_due) = true
  b__law_is_due : Binds K d.d__law_is_due P__law_is_due []
  m__law_is_due : mg "_law_is_due" = some (.ref a.a__law_is_due)
  F__law_fillings : FunC K "_law_fillings" "_law_fillings" s__law_fillings a.a__law_fillings d.d__law_fillings a.c__law_fillings
  k__law_fillings : PySem.W.keepIn K (.ref a.a__law_fillings) = true
  b__law_fillings : Binds K d.d__law_fillings P__law_fillings []
  m__law_fillings : mg "_law_fillings" = some (.ref a.a__law_fillings)
  F__law_world : FunC K "_law_world" "_law_world" s__law_world a.a__law_world d.d__law_world a.c__law_world
  k__law_world : PySem.W.keepIn K (.ref a.a__law_world) = true
  b__law_world : Binds K d.d__law_world P__law_world []
  m__law_world : mg "_law_world" = some (.ref a.a__law_world)
  F__law_near : FunC K "_law_near" "_law_near" s__law_near a.a__law_near d.d__law_near a.c__law_near
  k__law_near : PySem.W.keepIn K (.ref a.a__law_near) = true
  b__law_near : Binds K d.d__law_near P__law_near []
  m__law_near : mg "_law_near" = some (.ref a.a__law_near)
  F__law_walk : FunC K "_law_walk" "_law_walk" s__law_walk a.a__law_walk d.d__law_walk a.c__law_walk
  k__law_walk : PySem.W.keepIn K (.ref a.a__law_walk) = true
  b__law_walk : Binds K d.d__law_walk P__law_walk []
  m__law_walk : mg "_law_walk" = some (.ref a.a__law_walk)
  F__law_holds : FunC K "_law_holds" "_law_holds" s__law_holds a.a__law_holds d.d__law_holds a.c__law_holds
  k__law_holds : PySem.W.keepIn K (.ref a.a__law_holds) = true
  b__law_holds : Binds K d.d__law_holds P__law_holds []
  m__law_holds : mg "_law_holds" = some (.ref a.a__law_holds)
  F__law_are_held : FunC K "_law_are_held" "_law_are_held" s__law_are_held a.a__law_are_held d.d__law_are_held a.c__law_are_held
  k__law_are_held : PySem.W.keepIn K (.ref a.a__law_are_held) = true
  b__law_are_held : Binds K d.d__law_are_held P__law_are_held []
  m__law_are_held : mg "_law_are_held" = some (.ref a.a__law_are_held)
  F__law_parted : FunC K "_law_parted" "_law_parted" s__law_parted a.a__law_parted d.d__law_parted a.c__law_parted
  k__law_parted : PySem.W.keepIn K (.ref a.a__law_parted) = true
  b__law_parted : Binds K d.d__law_parted P__law_parted []
  m__law_parted : mg "_law_parted" = some (.ref a.a__law_parted)
  F__law_machine : FunC K "_law_machine" "_law_machine" s__law_machine a.a__law_machine d.d__law_machine a.c__law_machine
  k__law_machine : PySem.W.keepIn K (.ref a.a__law_machine) = true
  b__law_machine : Binds K d.d__law_machine P__law_machine []
  m__law_machine : mg "_law_machine" = some (.ref a.a__law_machine)
  F__law_saying : FunC K "_law_saying" "_law_saying" s__law_saying a.a__law_saying d.d__law_saying a.c__law_saying
  k__law_saying : PySem.W.keepIn K (.ref a.a__law_saying) = true
  b__law_saying : Binds K d.d__law_saying P__law_saying []
  m__law_saying : mg "_law_saying" = some (.ref a.a__law_saying)
  F__law_times : FunC K "_law_times" "_law_times" s__law_times a.a__law_times d.d__law_times a.c__law_times
  k__law_times : PySem.W.keepIn K (.ref a.a__law_times) = true
  b__law_times : Binds K d.d__law_times P__law_times []
  m__law_times : mg "_law_times" = some (.ref a.a__law_times)
  F__law_by_turns : FunC K "_law_by_turns" "_law_by_turns" s__law_by_turns a.a__law_by_turns d.d__law_by_turns a.c__law_by_turns
  k__law_by_turns : PySem.W.keepIn K (.ref a.a__law_by_turns) = true
  b__law_by_turns : Binds K d.d__law_by_turns P__law_by_turns []
  m__law_by_turns : mg "_law_by_turns" = some (.ref a.a__law_by_turns)
  F_law : FunC K "law" "law" s_law a.a_law d.d_law a.c_law
  k_law : PySem.W.keepIn K (.ref a.a_law) = true
  b_law : Binds K d.d_law P_law []
  m_law : mg "law" = some (.ref a.a_law)
  z_abs : mg "abs" = none
  z_all : mg "all" = none
  z_int : mg "int" = none
  z_len : mg "len" = none
  z_list : mg "list" = none
  z_max : mg "max" = none
  z_min : mg "min" = none
  z_range : mg "range" = none
  z_sorted : mg "sorted" = none
  z_str : mg "str" = none
  z_sum : mg "sum" = none
  z_tuple : mg "tuple" = none
  h_HOLDS : mg "HOLDS" = some (.ref a.d_HOLDS)
  kd_HOLDS_product : KDct K w a.d_HOLDS "product" (.ref a.a_holds_product)
  kd_HOLDS_ahead : KDct K w a.d_HOLDS "ahead" (.ref a.a_holds_ahead)
  kd_HOLDS_machine : KDct K w a.d_HOLDS "machine" (.ref a.a_holds_machine)
  kb_keeps_model_filling : KBinds K d.d_keeps P_keeps ["model", "filling"] gg_keeps_model_filling gV_keeps_model_filling
  kb_keeps_saying_model_name_filling : KBinds K d.d_keeps_saying P_keeps_saying ["model", "name", "filling"] gg_keeps_saying_model_name_filling gV_keeps_saying_model_name_filling
/-! ### weighed -/
def m_weighed : MS :=
  (mSeq (mRet (mSu (mItems (mFrz 0)) (gSet 2) mYes (mBin gMul (mBin gIx (mFrz 2) (mC (.int 1))) (mBin gIx (mFrz 1) (mBin gIx (mFrz 2) (mC (.int 0))))) [2]))
  mNext)
def f_weighed : List D → Option (D × List D) := runD N_weighed.length [] m_weighed
theorem ok_weighed {P : Program} {w : World} {K : PySem.W.Frag} {mg : Str → Option Value} {base : Heap} {a : Ad} {d : Fd} (T : Txt w K mg base a d) : FnOk P w K mg base CX0 4 a.a_weighed d.d_weighed P_weighed (spD K a.tabs [] P_weighed.length f_weighed) := by
  have hT := T.h_weighed
  have hP : a.t_weighed ∈ a.tabs := by unfold Ad.tabs; simp
  refine okD (k := 3) T.F_weighed sc_weighed fun A outer s H E S A0 hr => ?_
  exact (ss_cons (sret (x_sum (own := [("term", 2)]) hP hr rfl sc_weighed.nd hT rfl (gok_by (own := [("term", 2)]) (N := N_weighed) (sc := defScope s_weighed) (by decide +kernel)) (w_seq (xf 0)) (fun _ _ _ _ _ _ _ => (gnW 2 sc_weighed.nd)) (fun _ _ _ _ _ _ _ => ts_nil) (fun _ _ _ _ _ _ _ => (x_bin o_mul (x_ix (o_ix (hu_of (gR (k := 0) (hr.mono (by decide)) _))) (xf 2) x_int (fun _ _ => rfl)) (x_ix (o_ix (hu_of (gR (k := 0) (hr.mono (by decide)) _))) (xf 1) (x_ix (o_ix (hu_of (gR (k := 0) (hr.mono (by decide)) _))) (xf 2) x_int (fun _ _ => rfl)) (fun _ _ => rfl)))) (by rfl) T.z_sum (nios rfl)))
      ss_nil)
/-! ### values_at -/
def m_values_at : MS :=
  (mSeq (mRet (mApp gTupOf (mCons (mLc (mItems (mFrz 0)) (gSet 2) mYes (mBin gIx (mFrz 1) (mFrz 2)) [2]) mNil)))
  mNext)
def f_values_at : List D → Option (D × List D) := runD N_values_at.length [] m_values_at
theorem ok_values_at {P : Program} {w : World} {K : PySem.W.Frag} {mg : Str → Option Value} {base : Heap} {a : Ad} {d : Fd} (T : Txt w K mg base a d) : FnOk P w K mg base CX0 1 a.a_values_at d.d_values_at P_values_at (spD K a.tabs [] P_values_at.length f_values_at) := by
  refine okD (k := 0) T.F_values_at sc_values_at fun A outer s H E S A0 hr => ?_
  exact (ss_cons (sret (x_callTy c_tuple (by rfl) T.z_tuple (by decide +kernel) (xa_cons (x_new (x_lc (own := [("name", 2)]) rfl sc_values_at.nd (w_seq (xf 0)) (blkOk_by (own := [("name", 2)]) (N := N_values_at) (sc := defScope s_values_at) (by decide +kernel)) (fun _ _ _ _ _ _ => (gnW 2 sc_values_at.nd)) (fun _ _ _ _ _ _ => ts_nil) (fun _ _ _ _ _ _ => (x_ix (o_ix (hu_of hr)) (xf 1) (xf 2) (fun _ _ => rfl))) (hv := nios rfl))) xa_nil)))
      ss_nil)
/-! ### holds_product -/
def m_holds_product : MS :=
  (mSeq (mRet (mBin gEq (mBin gMul (mBin gIx (mFrz 1) (mBin gIx (mFrz 0) (mC (.int 1)))) (mBin gIx (mFrz 1) (mBin gIx (mFrz 0) (mC (.int 2))))) (mBin gIx (mFrz 1) (mBin gIx (mFrz 0) (mC (.int 3))))))
  mNext)
def f_holds_product : List D → Option (D × List D) := runD N_holds_product.length [] m_holds_product
theorem ok_holds_product {P : Program} {w : World} {K : PySem.W.Frag} {mg : Str → Option Value} {base : Heap} {a : Ad} {d : Fd} (T : Txt w K mg base a d) : FnOk P w K mg base CX0 1 a.a_holds_product d.d_holds_product P_holds_product (spD K a.tabs [] P_holds_product.length f_holds_product) := by
  refine okD (k := 0) T.F_holds_product sc_holds_product fun A outer s H E S A0 hr => ?_
  exact (ss_cons (sret (x_cmp (o_eq hr.units) (x_bin o_mul (x_ix (o_ix (hu_of hr)) (xf 1) (x_ix (o_ix (hu_of hr)) (xf 0) x_int (fun _ _ => rfl)) (fun _ _ => rfl)) (x_ix (o_ix (hu_of hr)) (xf 1) (x_ix (o_ix (hu_of hr)) (xf 0) x_int (fun _ _ => rfl)) (fun _ _ => rfl))) (x_ix (o_ix (hu_of hr)) (xf 1) (x_ix (o_ix (hu_of hr)) (xf 0) x_int (fun _ _ => rfl)) (fun _ _ => rfl))))
      ss_nil)
/-! ### holds_ahead -/
def m_holds_ahead : MS :=
  (mSeq (mRet (mBin gLe (mCall f_values_at [none, none] (mCons (mBin gIx (mFrz 0) (mC (.int 1))) (mCons (mFrz 1) mNil))) (mCall f_values_at [none, none] (mCons (mBin gIx (mFrz 0) (mC (.int 2))) (mCons (mFrz 1) mNil)))))
  mNext)
def f_holds_ahead : List D → Option (D × List D) := runD N_holds_ahead.length [] m_holds_ahead
theorem ok_holds_ahead {P : Program} {w : World} {K : PySem.W.Frag} {mg : Str → Option Value} {base : Heap} {a : Ad} {d : Fd} (T : Txt w K mg base a d) : FnOk P w K mg base CX0 2 a.a_holds_ahead d.d_holds_ahead P_holds_ahead (spD K a.tabs [] P_holds_ahead.length f_holds_ahead) := by
  have G_values_at := ok_values_at (P := P) (w := w) T
  refine okD (k := 1) T.F_holds_ahead sc_holds_ahead fun A outer s H E S A0 hr => ?_
  exact (ss_cons (sret (x_cmp (o_le (hr.units0)) (x_call (ts := [none, none]) G_values_at (hr.mono (by decide)) (by rfl) T.m_values_at T.k_values_at T.b_values_at (xc_plain (x_ix (o_ix (hu_of hr)) (xf 0) x_int (fun _ _ => rfl)) (xc_plain (xf 1) xc_nil))) (x_call (ts := [none, none]) G_values_at (hr.mono (by decide)) (by rfl) T.m_values_at T.k_values_at T.b_values_at (xc_plain (x_ix (o_ix (hu_of hr)) (xf 0) x_int (fun _ _ => rfl)) (xc_plain (xf 1) xc_nil)))))
      ss_nil)
/-! ### stand_of_machine -/
def m_stand_of_machine : MS :=
  (mSeq (mAsg (mDcT (mItems (mBin gIx (mFrz 0) (mC (.int 3)))) (gSet 6) mYes (mSl (mFrz 6) mNoP (mP (mC (.int 2)))) (mBin gIx (mFrz 6) (mC (.int 2))) [6]) (gOwn 3))
  (mSeq (mAsg (mBin gIx (mFrz 0) (mC (.int 2))) (gSet 4))
  (mSeq (mFor (mItems (mSl (mBin gIx (mFrz 0) (mC (.int 1))) mNoP (mP (mFrz 2)))) (gSet 5) (mSeq (mIfS (mB (mBin gNotInT (mApp gTupD (mCons (mFrz 4) (mCons (mBin gIx (mFrz 1) (mFrz 5)) mNil))) (mVar 3))) (mSeq (mRet (mC .none))
  mNext) mNext)
  (mSeq (mAsg (mBin gIxT (mVar 3) (mApp gTupD (mCons (mFrz 4) (mCons (mBin gIx (mFrz 1) (mFrz 5)) mNil)))) (gSet 4))
  mNext)))
  (mSeq (mRet (mFrz 4))
  mNext))))
def f_stand_of_machine : List D → Option (D × List D) := runD N_stand_of_machine.length [] m_stand_of_machine
theorem ok_stand_of_machine {P : Program} {w : World} {K : PySem.W.Frag} {mg : Str → Option Value} {base : Heap} {a : Ad} {d : Fd} (T : Txt w K mg base a d) : FnOk P w K mg base CX0 1 a.a_stand_of_machine d.d_stand_of_machine P_stand_of_machine (spD K a.tabs [] P_stand_of_machine.length f_stand_of_machine) := by
  refine okD (k := 0) T.F_stand_of_machine sc_stand_of_machine fun A outer s H E S A0 hr => ?_
  exact (ss_cons (sown_dcT 3 (hr.units0) (own := [("move", 6)]) rfl sc_stand_of_machine.nd (w_seq (x_ix (o_ix (hu_of hr)) (xf 0) x_int (fun _ _ => rfl))) (blkOk_by (own := [("move", 6)]) (N := N_stand_of_machine) (sc := defScope s_stand_of_machine) (by decide +kernel)) (fun _ _ _ _ _ _ => (gnW 6 sc_stand_of_machine.nd)) (fun _ _ _ _ _ _ => ts_nil) (fun _ _ _ _ _ _ => (x_slice (xf 6) xo_none (xo_some x_int))) (fun _ _ _ _ _ _ => (x_ix (o_ix (hu_of hr)) (xf 6) x_int (fun _ _ => rfl))) (hv := nios rfl))
      (ss_cons (s_asg (x_ix (o_ix (hu_of hr)) (xf 0) x_int (fun _ _ => rfl)) (gn 4 sc_stand_of_machine.nd))
      (ss_cons (s_for PassesOwn.never rfl (w_seq (x_slice (x_ix (o_ix (hu_of hr)) (xf 0) x_int (fun _ _ => rfl)) xo_none (xo_some (xf 2)))) (fun _ => (gn 5 sc_stand_of_machine.nd)) (fun _ => (ss_cons (s_if (t_cmp (o_notInT (hu_of hr)) (x_tup (FrzT.pe_tupF (xa_cons (xf 4) (xa_cons (x_ix (o_ix (hu_of hr)) (xf 1) (xf 5) (fun _ _ => rfl)) xa_nil)))) (xv 3)) (ss_cons (sret x_non)
      ss_nil) ss_nil)
      (ss_cons (s_asg (x_ix (o_ixT (hu_of hr)) (xv 3) (x_tup (FrzT.pe_tupF (xa_cons (xf 4) (xa_cons (x_ix (o_ix (hu_of hr)) (xf 1) (xf 5) (fun _ _ => rfl)) xa_nil)))) (fun _ _ => rfl)) (gn 4 sc_stand_of_machine.nd))
      ss_nil))))
      (ss_cons (sret (xf 4))
      ss_nil))))
/-! ### holds_machine -/
def m_holds_machine : MS :=
  (mSeq (mAsg (mCall f_stand_of_machine [none, none, none] (mCons (mFrz 0) (mCons (mFrz 1) (mCons (mApp gLen (mCons (mBin gIx (mFrz 0) (mC (.int 1))) mNil)) mNil)))) (gSet 2))
  (mSeq (mRet (mAndV (mBin gIsNot (mFrz 2) (mC .none)) (mBin gIn (mFrz 2) (mBin gIx (mFrz 0) (mC (.int 4))))))
  mNext))
def f_holds_machine : List D → Option (D × List D) := runD N_holds_machine.length [] m_holds_machine
theorem ok_holds_machine {P : Program} {w : World} {K : PySem.W.Frag} {mg : Str → Option Value} {base : Heap} {a : Ad} {d : Fd} (T : Txt w K mg base a d) : FnOk P w K mg base CX0 2 a.a_holds_machine d.d_holds_machine P_holds_machine (spD K a.tabs [] P_holds_machine.length f_holds_machine) := by
  have G_stand_of_machine := ok_stand_of_machine (P := P) (w := w) T
  refine okD (k := 1) T.F_holds_machine sc_holds_machine fun A outer s H E S A0 hr => ?_
  exact (ss_cons (s_asg (x_call (ts := [none, none, none]) G_stand_of_machine (hr.mono (by decide)) (by rfl) T.m_stand_of_machine T.k_stand_of_machine T.b_stand_of_machine (xc_plain (xf 0) (xc_plain (xf 1) (xc_plain (x_callB c_len (by rfl) T.z_len (by decide +kernel) (xa_cons (x_ix (o_ix (hu_of hr)) (xf 0) x_int (fun _ _ => rfl)) xa_nil)) xc_nil)))) (gn 2 sc_holds_machine.nd))
      (ss_cons (sret (x_and (x_cmp o_isnot (xf 2) x_non) (x_one (x_cmp (o_in (hu65 hr)) (xf 2) (x_ix (o_ix (hu_of hr)) (xf 0) x_int (fun _ _ => rfl))))))
      ss_nil))
/-! ### saying_holds -/
def m_saying_holds : MS :=
  (mSeq (mIfS (mB (mBin gEq (mBin gIx (mFrz 0) (mC (.int 0))) (mC (.str "when")))) mBad mNext)
  (mSeq (mRet (mTab [("product", f_holds_product), ("ahead", f_holds_ahead), ("machine", f_holds_machine)] [none, none] (mBin gIx (mFrz 0) (mC (.int 0))) (mCons (mFrz 0) (mCons (mFrz 1) mNil))))
  mNext))
def f_saying_holds : List D → Option (D × List D) := runD N_saying_holds.length [] m_saying_holds
theorem ok_saying_holds {P : Program} {w : World} {K : PySem.W.Frag} {mg : Str → Option Value} {base : Heap} {a : Ad} {d : Fd} (T : Txt w K mg base a d) : FnOk P w K mg base CX0 3 a.a_saying_holds d.d_saying_holds P_saying_holds (spD K a.tabs [] P_saying_holds.length f_saying_holds) := by
  have G_holds_product := ok_holds_product (P := P) (w := w) T
  have G_holds_ahead := ok_holds_ahead (P := P) (w := w) T
  have G_holds_machine := ok_holds_machine (P := P) (w := w) T
  refine okD (k := 2) T.F_saying_holds sc_saying_holds fun A outer s H E S A0 hr => ?_
  exact (ss_cons (s_if (t_cmp (o_eq hr.units) (x_ix (o_ix (hu_of hr)) (xf 0) x_int (fun _ _ => rfl)) x_str) ss_bad ss_nil)
      (ss_cons (sret (x_tab (k := 2) (ts := [none, none]) (tabOk_cons T.kd_HOLDS_product (by decide) G_holds_product T.k_holds_product T.b_holds_product rfl (tabOk_cons T.kd_HOLDS_ahead (by decide) G_holds_ahead T.k_holds_ahead T.b_holds_ahead rfl (tabOk_cons T.kd_HOLDS_machine (by decide) G_holds_machine T.k_holds_machine T.b_holds_machine rfl tabOk_nil))) (hr.mono (by decide)) (by rfl) T.h_HOLDS (x_ix (o_ix (hu_of hr)) (xf 0) x_int (fun _ _ => rfl)) (xc_plain (xf 0) (xc_plain (xf 1) xc_nil))))
      ss_nil))
/-! ### said_in -/
def m_said_in : MS :=
  (mSeq (mAsg (mDc (mItems (mBin gIx (mFrz 0) (mC (.int 1)))) (gTupT 2 (gsCons (gSet 2) (gsCons (gSet 3) gsNil))) mYes (mFrz 2) (mFrz 3) [2, 3]) (gOwn 1))
  (mSeq (mFor (mItems (mBin gIx (mFrz 0) (mC (.int 2)))) (gTupT 3 (gsCons (gSet 2) (gsCons (gSet 3) (gsCons (gSet 4) gsNil)))) (mSeq (mPut 1 (mFrz 2) (mFrz 3))
  mNext))
  (mSeq (mRet (mFrz 1))
  mNext)))
def f_said_in : List D → Option (D × List D) := runD N_said_in.length [] m_said_in
theorem ok_said_in {P : Program} {w : World} {K : PySem.W.Frag} {mg : Str → Option Value} {base : Heap} {a : Ad} {d : Fd} (T : Txt w K mg base a d) : FnOk P w K mg base CX0 1 a.a_said_in d.d_said_in P_said_in (spD K a.tabs [] P_said_in.length f_said_in) := by
  refine okD (k := 0) T.F_said_in sc_said_in fun A outer s H E S A0 hr => ?_
  exact (ss_cons (sown_dc 1 (own := [("name", 2), ("saying", 3)]) rfl sc_said_in.nd (w_seq (x_ix (o_ix (hu_of hr)) (xf 0) x_int (fun _ _ => rfl))) (blkOk_by (own := [("name", 2), ("saying", 3)]) (N := N_said_in) (sc := defScope s_said_in) (by decide +kernel)) (fun _ _ _ _ _ _ => (g_tupW rfl (gs_consW (gnW 2 sc_said_in.nd) (gs_consW (gnW 3 sc_said_in.nd) gs_nilW)))) (fun _ _ _ _ _ _ => ts_nil) (fun _ _ _ _ _ _ => (xf 2)) (fun _ _ _ _ _ _ => (xf 3)) (hv := nios rfl))
      (ss_cons (s_for PassesOwn.never rfl (w_seq (x_ix (o_ix (hu_of hr)) (xf 0) x_int (fun _ _ => rfl))) (fun _ => (g_tup rfl (gs_cons (gn 2 sc_said_in.nd) (gs_cons (gn 3 sc_said_in.nd) (gs_cons (gn 4 sc_said_in.nd) gs_nil gSet_keep) gSet_keep) gSet_keep))) (fun _ => (ss_cons (sput 1 (hu_of hr) (xf 2) (xf 3))
      ss_nil)))
      (ss_cons (sret (xf 1))
      ss_nil)))
/-! ### filling_dict -/
def m_filling_dict : MS :=
  (mSeq (mRet (mDc (mRange gRange1 (mCons (mApp gLen (mCons (mFrz 1) mNil)) mNil)) (gSet 2) mYes (mBin gIx (mBin gIx (mBin gIx (mFrz 0) (mC (.int 0))) (mFrz 2)) (mC (.int 0))) (mBin gIx (mFrz 1) (mFrz 2)) [2]))
  mNext)
def f_filling_dict : List D → Option (D × List D) := runD N_filling_dict.length [] m_filling_dict
theorem ok_filling_dict {P : Program} {w : World} {K : PySem.W.Frag} {mg : Str → Option Value} {base : Heap} {a : Ad} {d : Fd} (T : Txt w K mg base a d) : FnOk P w K mg base CX0 1 a.a_filling_dict d.d_filling_dict P_filling_dict (spD K a.tabs [] P_filling_dict.length f_filling_dict) := by
  refine okD (k := 0) T.F_filling_dict sc_filling_dict fun A outer s H E S A0 hr => ?_
  exact (ss_cons (sret (x_new (x_dc (own := [("place", 2)]) rfl sc_filling_dict.nd (w_range1 (by rfl) T.z_range (xa_cons (x_callB c_len (by rfl) T.z_len (by decide +kernel) (xa_cons (xf 1) xa_nil)) xa_nil)) (blkOk_by (own := [("place", 2)]) (N := N_filling_dict) (sc := defScope s_filling_dict) (by decide +kernel)) (fun _ _ _ _ _ _ => (gnW 2 sc_filling_dict.nd)) (fun _ _ _ _ _ _ => ts_nil) (fun _ _ _ _ _ _ => (x_ix (o_ix (hu_of hr)) (x_ix (o_ix (hu_of hr)) (x_ix (o_ix (hu_of hr)) (xf 0) x_int (fun _ _ => rfl)) (xf 2) (fun _ _ => rfl)) x_int (fun _ _ => rfl))) (fun _ _ _ _ _ _ => (x_ix (o_ix (hu_of hr)) (xf 1) (xf 2) (fun _ _ => rfl))) (hv := nios rfl))))
      ss_nil)
/-! ### keeps_saying -/
def m_keeps_saying : MS :=
  (mSeq (mRet (mCall f_saying_holds [none, none] (mCons (mBin gIx (mCall f_said_in [none] (mCons (mFrz 0) mNil)) (mFrz 1)) (mCons (mCall f_filling_dict [none, none] (mCons (mFrz 0) (mCons (mFrz 2) mNil))) mNil))))
  mNext)
def f_keeps_saying : List D → Option (D × List D) := runD N_keeps_saying.length [] m_keeps_saying
theorem ok_keeps_saying {P : Program} {w : World} {K : PySem.W.Frag} {mg : Str → Option Value} {base : Heap} {a : Ad} {d : Fd} (T : Txt w K mg base a d) : FnOk P w K mg base CX0 4 a.a_keeps_saying d.d_keeps_saying P_keeps_saying (spD K a.tabs [] P_keeps_saying.length f_keeps_saying) := by
  have G_saying_holds := ok_saying_holds (P := P) (w := w) T
  have G_filling_dict := ok_filling_dict (P := P) (w := w) T
  have G_said_in := ok_said_in (P := P) (w := w) T
  refine okD (k := 3) T.F_keeps_saying sc_keeps_saying fun A outer s H E S A0 hr => ?_
  exact (ss_cons (sret (x_call (ts := [none, none]) G_saying_holds (hr.mono (by decide)) (by rfl) T.m_saying_holds T.k_saying_holds T.b_saying_holds (xc_plain (x_ix (o_ix (hu_of hr)) (x_call (ts := [none]) G_said_in (hr.mono (by decide)) (by rfl) T.m_said_in T.k_said_in T.b_said_in (xc_plain (xf 0) xc_nil)) (xf 1) (fun _ _ => rfl)) (xc_plain (x_call (ts := [none, none]) G_filling_dict (hr.mono (by decide)) (by rfl) T.m_filling_dict T.k_filling_dict T.b_filling_dict (xc_plain (xf 0) (xc_plain (xf 2) xc_nil))) xc_nil))))
      ss_nil)
/-! ### keeps -/
def m_keeps : MS :=
  (mSeq (mAsg (mCall f_filling_dict [none, none] (mCons (mFrz 0) (mCons (mFrz 1) mNil))) (gSet 2))
  (mSeq (mRet (mAn false (mItems (mBin gIx (mFrz 0) (mC (.int 1)))) (gTupT 2 (gsCons (gSet 3) (gsCons (gSet 4) gsNil))) mYes (mCall f_saying_holds [none, none] (mCons (mFrz 4) (mCons (mFrz 2) mNil))) [3, 4]))
  mNext))
def f_keeps : List D → Option (D × List D) := runD N_keeps.length [] m_keeps
theorem ok_keeps {P : Program} {w : World} {K : PySem.W.Frag} {mg : Str → Option Value} {base : Heap} {a : Ad} {d : Fd} (T : Txt w K mg base a d) : FnOk P w K mg base CX0 7 a.a_keeps d.d_keeps P_keeps (spD K a.tabs [] P_keeps.length f_keeps) := by
  have G_saying_holds := ok_saying_holds (P := P) (w := w) T
  have G_filling_dict := ok_filling_dict (P := P) (w := w) T
  have hT := T.h_keeps
  have hP : a.t_keeps ∈ a.tabs := by unfold Ad.tabs; simp
  refine okD (k := 6) T.F_keeps sc_keeps fun A outer s H E S A0 hr => ?_
  exact (ss_cons (s_asg (x_call (ts := [none, none]) G_filling_dict (hr.mono (by decide)) (by rfl) T.m_filling_dict T.k_filling_dict T.b_filling_dict (xc_plain (xf 0) (xc_plain (xf 1) xc_nil))) (gn 2 sc_keeps.nd))
      (ss_cons (sret (x_all (own := [("_", 3), ("saying", 4)]) hP hr rfl sc_keeps.nd hT rfl (gok_by (own := [("_", 3), ("saying", 4)]) (N := N_keeps) (sc := defScope s_keeps) (by decide +kernel)) (w_seq (x_ix (o_ix (hu_of hr)) (xf 0) x_int (fun _ _ => rfl))) (fun _ _ _ _ _ _ _ => (g_tupW rfl (gs_consW (gnW 3 sc_keeps.nd) (gs_consW (gnW 4 sc_keeps.nd) gs_nilW)))) (fun _ _ _ _ _ _ _ => ts_nil) (fun _ _ _ _ _ _ _ => (x_call (ts := [none, none]) G_saying_holds (gR (k := 3) (hr.mono (by decide)) _) (by rfl) T.m_saying_holds T.k_saying_holds T.b_saying_holds (xc_plain (xf 4) (xc_plain (xf 2) xc_nil)))) (by rfl) T.z_all (nios rfl)))
      ss_nil))
/-! ### _law_mixed -/
def m__law_mixed : MS :=
  (mSeq (mAsg (mBin gMod (mApp gInt (mCons (mBin gAdd (mBin gAdd (mBin gMul (mFrz 0) (mC (.int 48271))) (mBin gMul (mFrz 1) (mC (.int 69621)))) (mC (.int 97))) mNil)) (mC (.int 2147483647))) (gSet 2))
  (mSeq (mAsg (mBin gMod (mApp gInt (mCons (mBin gAdd (mBin gAdd (mBin gMul (mFrz 2) (mBin gAdd (mBin gAdd (mFrz 2) (mBin gMul (mC (.int 2)) (mFrz 1))) (mC (.int 1)))) (mBin gMul (mFrz 1) (mC (.int 16807)))) (mC (.int 31))) mNil)) (mC (.int 2147483629))) (gSet 3))
  (mSeq (mRet (mBin gMod (mApp gInt (mCons (mBin gAdd (mBin gMul (mFrz 3) (mC (.int 40692))) (mFrz 2)) mNil)) (mC (.int 2147483587))))
  mNext)))
def f__law_mixed : List D → Option (D × List D) := runD N__law_mixed.length [] m__law_mixed
theorem ok__law_mixed {P : Program} {w : World} {K : PySem.W.Frag} {mg : Str → Option Value} {base : Heap} {a : Ad} {d : Fd} (T : Txt w K mg base a d) : FnOk P w K mg base CX0 1 a.a__law_mixed d.d__law_mixed P__law_mixed (spD K a.tabs [] P__law_mixed.length f__law_mixed) := by
  refine okD (k := 0) T.F__law_mixed sc__law_mixed fun A outer s H E S A0 hr => ?_
  exact (ss_cons (s_asg (x_bin o_mod (x_callTy c_int (by rfl) T.z_int (by decide +kernel) (xa_cons (x_bin o_add (x_bin o_add (x_bin o_mul (xf 0) x_int) (x_bin o_mul (xf 1) x_int)) x_int) xa_nil)) x_int) (gn 2 sc__law_mixed.nd))
      (ss_cons (s_asg (x_bin o_mod (x_callTy c_int (by rfl) T.z_int (by decide +kernel) (xa_cons (x_bin o_add (x_bin o_add (x_bin o_mul (xf 2) (x_bin o_add (x_bin o_add (xf 2) (x_bin o_mul x_int (xf 1))) x_int)) (x_bin o_mul (xf 1) x_int)) x_int) xa_nil)) x_int) (gn 3 sc__law_mixed.nd))
      (ss_cons (sret (x_bin o_mod (x_callTy c_int (by rfl) T.z_int (by decide +kernel) (xa_cons (x_bin o_add (x_bin o_mul (xf 3) x_int) (xf 2)) xa_nil)) x_int))
      ss_nil)))
/-! ### _law_start -/
def m__law_start : MS :=
  (mSeq (mAsg (mApp gLen (mCons (mFrz 0) mNil)) (gSet 1))
  (mSeq (mFor (mItems (mSl (mFrz 0) mNoP (mP (mC (.int 63))))) (gSet 2) (mSeq (mAsg (mCall f__law_mixed [none, none] (mCons (mBin gAdd (mFrz 1) (mFrz 2)) (mCons (mC (.int 5)) mNil))) (gSet 1))
  mNext))
  (mSeq (mRet (mApp gLstD (mCons (mC (.int 0)) (mCons (mC (.int 0)) (mCons (mC (.int 0)) (mCons (mFrz 1) (mCons (mApp gListOf (mCons (mSl (mFrz 0) mNoP (mP (mC (.int 63)))) mNil)) (mCons (mC (.int 0)) mNil))))))))
  mNext)))
def f__law_start : List D → Option (D × List D) := runN N__law_start.length [] m__law_start
theorem ok__law_start {P : Program} {w : World} {K : PySem.W.Frag} {mg : Str → Option Value} {base : Heap} {a : Ad} {d : Fd} (T : Txt w K mg base a d) : FnOk P w K mg base CX0 2 a.a__law_start d.d__law_start P__law_start (spN K a.tabs [] P__law_start.length f__law_start) := by
  have G__law_mixed := ok__law_mixed (P := P) (w := w) T
  refine okN (k := 1) T.F__law_start sc__law_start fun A outer s H E S A0 hr => ?_
  exact (ss_cons (s_asg (x_callB c_len (by rfl) T.z_len (by decide +kernel) (xa_cons (xf 0) xa_nil)) (gn 1 sc__law_start.nd))
      (ss_cons (s_for PassesOwn.never rfl (w_seq (x_slice (xf 0) xo_none (xo_some x_int))) (fun _ => (gn 2 sc__law_start.nd)) (fun _ => (ss_cons (s_asg (x_call (ts := [none, none]) G__law_mixed (hr.mono (by decide)) (by rfl) T.m__law_mixed T.k__law_mixed T.b__law_mixed (xc_plain (x_bin o_add (xf 1) (xf 2)) (xc_plain x_int xc_nil))) (gn 1 sc__law_start.nd))
      ss_nil)))
      (ss_cons (s_retNew (x_lstN (pe_lst (xa_cons x_int (xa_cons x_int (xa_cons x_int (xa_cons (xf 1) (xa_cons (x_callTy (c_list rfl) (by rfl) T.z_list (by decide +kernel) (xa_cons (x_slice (xf 0) xo_none (xo_some x_int)) xa_nil)) (xa_cons x_int xa_nil)))))))))
      ss_nil)))
/-! ### _law_take -/
def m__law_take : MS :=
  (mSeq (mAsg (mBin gIx (mVar 0) (mC (.int 4))) (gSet 2))
  (mSeq (mAugL 0 gAddI (mC (.int 2)) (mC (.int 1)))
  (mSeq (mIfS (mAndT (mB (mBin gEq (mBin gIx (mVar 0) (mC (.int 0))) (mC (.int 0)))) (mB (mBin gLt (mBin gIx (mVar 0) (mC (.int 1))) (mApp gLen (mCons (mFrz 2) mNil))))) (mSeq (mAsg (mBin gIx (mFrz 2) (mBin gIx (mVar 0) (mC (.int 1)))) (gSet 3))
  (mSeq (mAugL 0 gAddI (mC (.int 1)) (mC (.int 1)))
  (mSeq (mIfS (mB (mBin gLt (mApp gAbs (mCons (mFrz 3) mNil)) (mBin gPow (mC (.int 10)) (mC (.int 18))))) (mSeq (mRet (mBin gMod (mApp gInt (mCons (mCall f__law_mixed [none, none] (mCons (mFrz 3) (mCons (mBin gIx (mVar 0) (mC (.int 2))) mNil))) mNil)) (mFrz 1)))
  mNext) mNext)
  (mSeq (mPut 0 (mC (.int 0)) (mApp gAbs (mCons (mFrz 3) mNil)))
  (mSeq (mPut 0 (mC (.int 5)) (mC (.int 60)))
  mNext))))) mNext)
  (mSeq (mIfS (mB (mBin gEq (mBin gIx (mVar 0) (mC (.int 0))) (mC (.int 0)))) (mSeq (mRet (mBin gMod (mApp gInt (mCons (mCall f__law_mixed [none, none] (mCons (mBin gIx (mVar 0) (mC (.int 3))) (mCons (mBin gIx (mVar 0) (mC (.int 2))) mNil))) mNil)) (mFrz 1)))
  mNext) mNext)
  (mSeq (mAsg (mBin gMod (mApp gInt (mCons (mBin gIx (mVar 0) (mC (.int 0))) mNil)) (mFrz 1)) (gSet 4))
  (mSeq (mAugL 0 gSubI (mC (.int 5)) (mC (.int 1)))
  (mSeq (mPut 0 (mC (.int 0)) (mBin gMul (mBin gDiv (mBin gIx (mVar 0) (mC (.int 0))) (mFrz 1)) (mApp gInt (mCons (mBin gGt (mBin gIx (mVar 0) (mC (.int 5))) (mC (.int 0))) mNil))))
  (mSeq (mRet (mFrz 4))
  mNext))))))))
def f__law_take : List D → Option (D × List D) := runD N__law_take.length [0] m__law_take
theorem ok__law_take {P : Program} {w : World} {K : PySem.W.Frag} {mg : Str → Option Value} {base : Heap} {a : Ad} {d : Fd} (T : Txt w K mg base a d) : FnOk P w K mg base CX0 2 a.a__law_take d.d__law_take P__law_take (spD K a.tabs [0] P__law_take.length f__law_take) := by
  have G__law_mixed := ok__law_mixed (P := P) (w := w) T
  refine okD (k := 1) T.F__law_take sc__law_take fun A outer s H E S A0 hr => ?_
  exact (ss_cons (s_asg (x_ix (o_ix (hu_of hr)) (xv 0) x_int (fun _ _ => rfl)) (gn 2 sc__law_take.nd))
      (ss_cons (saugS 0 x_int x_int i_add)
      (ss_cons (s_if (PW.pt (t_and (t_cmp (o_eq hr.units) (x_ix (o_ix (hu_of hr)) (xv 0) x_int (fun _ _ => rfl)) x_int) (t_and1 (t_cmp o_lt (x_ix (o_ix (hu_of hr)) (xv 0) x_int (fun _ _ => rfl)) (x_callB c_len (by rfl) T.z_len (by decide +kernel) (xa_cons (xf 2) xa_nil)))))) (ss_cons (s_asg (x_ix (o_ix (hu_of hr)) (xf 2) (x_ix (o_ix (hu_of hr)) (xv 0) x_int (fun _ _ => rfl)) (fun _ _ => rfl)) (gn 3 sc__law_take.nd))
      (ss_cons (saugS 0 x_int x_int i_add)
      (ss_cons (s_if (t_cmp o_lt (x_callB c_abs (by rfl) T.z_abs (by decide +kernel) (xa_cons (xf 3) xa_nil)) (x_bin o_pow x_int x_int)) (ss_cons (sret (x_bin o_mod (x_callTy c_int (by rfl) T.z_int (by decide +kernel) (xa_cons (x_call (ts := [none, none]) G__law_mixed (hr.mono (by decide)) (by rfl) T.m__law_mixed T.k__law_mixed T.b__law_mixed (xc_plain (xf 3) (xc_plain (x_ix (o_ix (hu_of hr)) (xv 0) x_int (fun _ _ => rfl)) xc_nil))) xa_nil)) (xf 1)))
      ss_nil) ss_nil)
      (ss_cons (sput 0 (hu_of hr) x_int (x_callB c_abs (by rfl) T.z_abs (by decide +kernel) (xa_cons (xf 3) xa_nil)))
      (ss_cons (sput 0 (hu_of hr) x_int x_int)
      ss_nil))))) ss_nil)
      (ss_cons (s_if (t_cmp (o_eq hr.units) (x_ix (o_ix (hu_of hr)) (xv 0) x_int (fun _ _ => rfl)) x_int) (ss_cons (sret (x_bin o_mod (x_callTy c_int (by rfl) T.z_int (by decide +kernel) (xa_cons (x_call (ts := [none, none]) G__law_mixed (hr.mono (by decide)) (by rfl) T.m__law_mixed T.k__law_mixed T.b__law_mixed (xc_plain (x_ix (o_ix (hu_of hr)) (xv 0) x_int (fun _ _ => rfl)) (xc_plain (x_ix (o_ix (hu_of hr)) (xv 0) x_int (fun _ _ => rfl)) xc_nil))) xa_nil)) (xf 1)))
      ss_nil) ss_nil)
      (ss_cons (s_asg (x_bin o_mod (x_callTy c_int (by rfl) T.z_int (by decide +kernel) (xa_cons (x_ix (o_ix (hu_of hr)) (xv 0) x_int (fun _ _ => rfl)) xa_nil)) (xf 1)) (gn 4 sc__law_take.nd))
      (ss_cons (saugS 0 x_int x_int i_sub)
      (ss_cons (sput 0 (hu_of hr) x_int (x_bin o_mul (x_bin o_div (x_ix (o_ix (hu_of hr)) (xv 0) x_int (fun _ _ => rfl)) (xf 1)) (x_callTy c_int (by rfl) T.z_int (by decide +kernel) (xa_cons (x_cmp o_gt (x_ix (o_ix (hu_of hr)) (xv 0) x_int (fun _ _ => rfl)) x_int) xa_nil))))
      (ss_cons (sret (xf 4))
      ss_nil))))))))
/-! ### _law_pick -/
def m__law_pick : MS :=
  (mSeq (mRet (mBin gIx (mFrz 1) (mCall f__law_take [some 0, none] (mConsIo 0 (mCons (mApp gLen (mCons (mFrz 1) mNil)) mNil)))))
  mNext)
def f__law_pick : List D → Option (D × List D) := runD N__law_pick.length [0] m__law_pick
theorem ok__law_pick {P : Program} {w : World} {K : PySem.W.Frag} {mg : Str → Option Value} {base : Heap} {a : Ad} {d : Fd} (T : Txt w K mg base a d) : FnOk P w K mg base CX0 3 a.a__law_pick d.d__law_pick P__law_pick (spD K a.tabs [0] P__law_pick.length f__law_pick) := by
  have G__law_take := ok__law_take (P := P) (w := w) T
  refine okD (k := 2) T.F__law_pick sc__law_pick fun A outer s H E S A0 hr => ?_
  exact (ss_cons (sret (x_ix (o_ix (hu_of hr)) (xf 1) (x_call (ts := [some 0, none]) G__law_take (hr.mono (by decide)) (by rfl) T.m__law_take T.k__law_take T.b__law_take (xcio 0 (xc_plain (x_callB c_len (by rfl) T.z_len (by decide +kernel) (xa_cons (xf 1) xa_nil)) xc_nil))) (fun _ _ => rfl)))
      ss_nil)
/-! ### _law_shuffled -/
def m__law_shuffled : MS :=
  (mSeq (mAsg (mApp gListOf (mCons (mFrz 1) mNil)) (gSet 2))
  (mSeq (mAsg (mApp gLstD mNil) (gOwn 3))
  (mSeq (mFor (mRange gRange1 (mCons (mApp gLen (mCons (mFrz 1) mNil)) mNil)) (gSet 4) (mSeq (mAsg (mCall f__law_take [some 0, none] (mConsIo 0 (mCons (mApp gLen (mCons (mFrz 2) mNil)) mNil))) (gSet 5))
  (mSeq (mDrop (mMut 3 gApp (mBin gIx (mFrz 2) (mFrz 5))))
  (mSeq (mAsg (mBin gAdd (mSl (mFrz 2) mNoP (mP (mFrz 5))) (mSl (mFrz 2) (mP (mBin gAdd (mFrz 5) (mC (.int 1)))) mNoP)) (gSet 2))
  mNext))))
  (mSeq (mRet (mFrz 3))
  mNext))))
def f__law_shuffled : List D → Option (D × List D) := runD N__law_shuffled.length [0] m__law_shuffled
theorem ok__law_shuffled {P : Program} {w : World} {K : PySem.W.Frag} {mg : Str → Option Value} {base : Heap} {a : Ad} {d : Fd} (T : Txt w K mg base a d) : FnOk P w K mg base CX0 3 a.a__law_shuffled d.d__law_shuffled P__law_shuffled (spD K a.tabs [0] P__law_shuffled.length f__law_shuffled) := by
  have G__law_take := ok__law_take (P := P) (w := w) T
  refine okD (k := 2) T.F__law_shuffled sc__law_shuffled fun A outer s H E S A0 hr => ?_
  exact (ss_cons (s_asg (x_callTy (c_list rfl) (by rfl) T.z_list (by decide +kernel) (xa_cons (xf 1) xa_nil)) (gn 2 sc__law_shuffled.nd))
      (ss_cons (sown 3 sc__law_shuffled.nd (x_lstN (pe_lst xa_nil)))
      (ss_cons (s_for PassesOwn.never rfl (w_range1 (by rfl) T.z_range (xa_cons (x_callB c_len (by rfl) T.z_len (by decide +kernel) (xa_cons (xf 1) xa_nil)) xa_nil)) (fun _ => (gn 4 sc__law_shuffled.nd)) (fun _ => (ss_cons (s_asg (x_call (ts := [some 0, none]) G__law_take (hr.mono (by decide)) (by rfl) T.m__law_take T.k__law_take T.b__law_take (xcio 0 (xc_plain (x_callB c_len (by rfl) T.z_len (by decide +kernel) (xa_cons (xf 2) xa_nil)) xc_nil))) (gn 5 sc__law_shuffled.nd))
      (ss_cons (s_expr (x_append (i := 3) rfl (by first | exact Or.inl rfl | exact Or.inr (Or.inl rfl) | exact Or.inr (Or.inr rfl)) (x_ix (o_ix (hu_of hr)) (xf 2) (xf 5) (fun _ _ => rfl))))
      (ss_cons (s_asg (x_bin o_add (x_slice (xf 2) xo_none (xo_some (xf 5))) (x_slice (xf 2) (xo_some (x_bin o_add (xf 5) x_int)) xo_none)) (gn 2 sc__law_shuffled.nd))
      ss_nil)))))
      (ss_cons (sret (xf 3))
      ss_nil))))
/-! ### _law_names -/
def m__law_names : MS :=
  (mSeq (mAsg (mC (.str "abcdefghijklmnopqrstuvwxyz0123456789.")) (gSet 2))
  (mSeq (mAsg (mCall f__law_take [some 0, none] (mConsIo 0 (mCons (mC (.int 4)) mNil))) (gSet 3))
  (mSeq (mPar 4 5 (mCons (mCall f__law_take [some 0, none] (mConsIo 0 (mCons (mC (.int 37)) mNil))) (mCons (mBin gAdd (mC (.int 1)) (mCall f__law_take [some 0, none] (mConsIo 0 (mCons (mC (.int 36)) mNil)))) mNil)))
  (mSeq (mAsg (mBin gJoin (mC (.str "")) (mLc (mRange gRange1 (mCons (mC (.int 24)) mNil)) (gSet 10) mYes (mBin gIx (mFrz 2) (mCall f__law_take [some 0, none] (mConsIo 0 (mCons (mC (.int 37)) mNil)))) [10])) (gSet 6))
  (mSeq (mPar 7 8 (mCons (mCall f__law_take [some 0, none] (mConsIo 0 (mCons (mC (.int 12)) mNil))) (mCons (mBin gAdd (mC (.int 12)) (mCall f__law_take [some 0, none] (mConsIo 0 (mCons (mC (.int 12)) mNil)))) mNil)))
  (mSeq (mAsg (mApp gLstD mNil) (gOwn 9))
  (mSeq (mFor (mRange gRange1 (mCons (mFrz 1) mNil)) (gSet 10) (mSeq (mAsg (mBin gIx (mFrz 2) (mBin gMod (mApp gInt (mCons (mBin gAdd (mFrz 4) (mBin gMul (mFrz 5) (mFrz 10))) mNil)) (mC (.int 37)))) (gSet 11))
  (mSeq (mAsg (mBin gAdd (mBin gAdd (mBin gAdd (mBin gAdd (mSl (mFrz 6) mNoP (mP (mFrz 7))) (mFrz 11)) (mSl (mFrz 6) (mP (mBin gAdd (mFrz 7) (mC (.int 1)))) (mP (mFrz 8)))) (mBin gIx (mFrz 2) (mBin gDiv (mFrz 10) (mC (.int 37))))) (mSl (mFrz 6) (mP (mBin gAdd (mFrz 8) (mC (.int 1)))) mNoP)) (gSet 12))
  (mSeq (mIfS (mB (mBin gEq (mFrz 3) (mC (.int 0)))) (mSeq (mAsg (mBin gAdd (mFrz 11) (mBin gMul (mBin gIx (mFrz 2) (mBin gDiv (mFrz 10) (mC (.int 37)))) (mApp gInt (mCons (mBin gGt (mFrz 1) (mC (.int 37))) mNil)))) (gSet 12))
  mNext) (mSeq (mIfS (mB (mBin gEq (mFrz 3) (mC (.int 1)))) (mSeq (mAsg (mBin gAdd (mBin gAdd (mSl (mFrz 6) mNoP (mP (mFrz 7))) (mFrz 11)) (mApp gStr (mCons (mFrz 10) mNil))) (gSet 12))
  mNext) (mSeq (mIfS (mB (mBin gEq (mFrz 3) (mC (.int 2)))) (mSeq (mAsg (mBin gAdd (mBin gAdd (mBin gAdd (mBin gAdd (mSl (mFrz 6) mNoP (mP (mBin gAdd (mC (.int 1)) (mBin gDiv (mFrz 7) (mC (.int 4)))))) (mC (.str "."))) (mApp gStr (mCons (mBin gDiv (mFrz 10) (mC (.int 3))) mNil))) (mC (.str "."))) (mApp gStr (mCons (mBin gMod (mApp gInt (mCons (mFrz 10) mNil)) (mC (.int 3))) mNil))) (gSet 12))
  mNext) mNext)
  mNext))
  mNext))
  (mSeq (mDrop (mMut 9 gApp (mFrz 12)))
  mNext)))))
  (mSeq (mRet (mCall f__law_shuffled [some 0, none] (mConsIo 0 (mCons (mFrz 9) mNil))))
  mNext))))))))
def f__law_names : List D → Option (D × List D) := runD N__law_names.length [0] m__law_names
theorem ok__law_names {P : Program} {w : World} {K : PySem.W.Frag} {mg : Str → Option Value} {base : Heap} {a : Ad} {d : Fd} (T : Txt w K mg base a d) : FnOk P w K mg base CX0 4 a.a__law_names d.d__law_names P__law_names (spD K a.tabs [0] P__law_names.length f__law_names) := by
  have G__law_shuffled := ok__law_shuffled (P := P) (w := w) T
  have G__law_take := ok__law_take (P := P) (w := w) T
  refine okD (k := 3) T.F__law_names sc__law_names fun A outer s H E S A0 hr => ?_
  exact (ss_cons (s_asg x_str (gn 2 sc__law_names.nd))
      (ss_cons (s_asg (x_call (ts := [some 0, none]) G__law_take (hr.mono (by decide)) (by rfl) T.m__law_take T.k__law_take T.b__law_take (xcio 0 (xc_plain x_int xc_nil))) (gn 3 sc__law_names.nd))
      (ss_cons (spar 4 5 sc__law_names.nd (xa_cons (x_call (ts := [some 0, none]) G__law_take (hr.mono (by decide)) (by rfl) T.m__law_take T.k__law_take T.b__law_take (xcio 0 (xc_plain x_int xc_nil))) (xa_cons (x_bin o_add x_int (x_call (ts := [some 0, none]) G__law_take (hr.mono (by decide)) (by rfl) T.m__law_take T.k__law_take T.b__law_take (xcio 0 (xc_plain x_int xc_nil)))) xa_nil)))
      (ss_cons (s_asg (x_join x_str (x_new (x_lc (own := [("k", 10)]) rfl sc__law_names.nd (w_range1 (by rfl) T.z_range (xa_cons x_int xa_nil)) (blkOk_by (own := [("k", 10)]) (N := N__law_names) (sc := defScope s__law_names) (by decide +kernel)) (fun _ _ _ _ _ _ => (gnW 10 sc__law_names.nd)) (fun _ _ _ _ _ _ => ts_nil) (fun _ _ _ _ _ _ => (x_ix (o_ix (hu_of hr)) (xf 2) (x_call (ts := [some 0, none]) G__law_take (hr.mono (by decide)) (by rfl) T.m__law_take T.k__law_take T.b__law_take (xcio 0 (xc_plain x_int xc_nil))) (fun _ _ => rfl))) (hv := nios rfl)))) (gn 6 sc__law_names.nd))
      (ss_cons (spar 7 8 sc__law_names.nd (xa_cons (x_call (ts := [some 0, none]) G__law_take (hr.mono (by decide)) (by rfl) T.m__law_take T.k__law_take T.b__law_take (xcio 0 (xc_plain x_int xc_nil))) (xa_cons (x_bin o_add x_int (x_call (ts := [some 0, none]) G__law_take (hr.mono (by decide)) (by rfl) T.m__law_take T.k__law_take T.b__law_take (xcio 0 (xc_plain x_int xc_nil)))) xa_nil)))
      (ss_cons (sown 9 sc__law_names.nd (x_lstN (pe_lst xa_nil)))
      (ss_cons (s_for PassesOwn.never rfl (w_range1 (by rfl) T.z_range (xa_cons (xf 1) xa_nil)) (fun _ => (gn 10 sc__law_names.nd)) (fun _ => (ss_cons (s_asg (x_ix (o_ix (hu_of hr)) (xf 2) (x_bin o_mod (x_callTy c_int (by rfl) T.z_int (by decide +kernel) (xa_cons (x_bin o_add (xf 4) (x_bin o_mul (xf 5) (xf 10))) xa_nil)) x_int) (fun _ _ => rfl)) (gn 11 sc__law_names.nd))
      (ss_cons (s_asg (x_bin o_add (x_bin o_add (x_bin o_add (x_bin o_add (x_slice (xf 6) xo_none (xo_some (xf 7))) (xf 11)) (x_slice (xf 6) (xo_some (x_bin o_add (xf 7) x_int)) (xo_some (xf 8)))) (x_ix (o_ix (hu_of hr)) (xf 2) (x_bin o_div (xf 10) x_int) (fun _ _ => rfl))) (x_slice (xf 6) (xo_some (x_bin o_add (xf 8) x_int)) xo_none)) (gn 12 sc__law_names.nd))
      (ss_cons (s_if (t_cmp (o_eq hr.units) (xf 3) x_int) (ss_cons (s_asg (x_bin o_add (xf 11) (x_bin o_mul (x_ix (o_ix (hu_of hr)) (xf 2) (x_bin o_div (xf 10) x_int) (fun _ _ => rfl)) (x_callTy c_int (by rfl) T.z_int (by decide +kernel) (xa_cons (x_cmp o_gt (xf 1) x_int) xa_nil)))) (gn 12 sc__law_names.nd))
      ss_nil) (ss_cons (s_if (t_cmp (o_eq hr.units) (xf 3) x_int) (ss_cons (s_asg (x_bin o_add (x_bin o_add (x_slice (xf 6) xo_none (xo_some (xf 7))) (xf 11)) (x_callTy c_str (by rfl) T.z_str (by decide +kernel) (xa_cons (xf 10) xa_nil))) (gn 12 sc__law_names.nd))
      ss_nil) (ss_cons (s_if (t_cmp (o_eq hr.units) (xf 3) x_int) (ss_cons (s_asg (x_bin o_add (x_bin o_add (x_bin o_add (x_bin o_add (x_slice (xf 6) xo_none (xo_some (x_bin o_add x_int (x_bin o_div (xf 7) x_int)))) x_str) (x_callTy c_str (by rfl) T.z_str (by decide +kernel) (xa_cons (x_bin o_div (xf 10) x_int) xa_nil))) x_str) (x_callTy c_str (by rfl) T.z_str (by decide +kernel) (xa_cons (x_bin o_mod (x_callTy c_int (by rfl) T.z_int (by decide +kernel) (xa_cons (xf 10) xa_nil)) x_int) xa_nil))) (gn 12 sc__law_names.nd))
      ss_nil) ss_nil)
      ss_nil))
      ss_nil))
      (ss_cons (s_expr (x_append (i := 9) rfl (by first | exact Or.inl rfl | exact Or.inr (Or.inl rfl) | exact Or.inr (Or.inr rfl)) (xf 12)))
      ss_nil))))))
      (ss_cons (sret (x_call (ts := [some 0, none]) G__law_shuffled (hr.mono (by decide)) (by rfl) T.m__law_shuffled T.k__law_shuffled T.b__law_shuffled (xcio 0 (xc_plain (xf 9) xc_nil))))
      ss_nil))))))))
/-! ### _law_is_due -/
def m__law_is_due : MS :=
  (mSeq (mRet (mIf (mB (mFrz 1)) (mBin gIs (mFrz 0) (mC (.bool true))) (mBin gIs (mFrz 0) (mC (.bool false)))))
  mNext)
def f__law_is_due : List D → Option (D × List D) := runD N__law_is_due.length [] m__law_is_due
theorem ok__law_is_due {P : Program} {w : World} {K : PySem.W.Frag} {mg : Str → Option Value} {base : Heap} {a : Ad} {d : Fd} (T : Txt w K mg base a d) : FnOk P w K mg base CX0 1 a.a__law_is_due d.d__law_is_due P__law_is_due (spD K a.tabs [] P__law_is_due.length f__law_is_due) := by
  refine okD (k := 0) T.F__law_is_due sc__law_is_due fun A outer s H E S A0 hr => ?_
  exact (ss_cons (sret (x_if (t_val (xf 1)) (x_cmp o_is (xf 0) x_bl) (x_cmp o_is (xf 0) x_bl)))
      ss_nil)
/-! ### _law_fillings -/
def m__law_fillings : MS :=
  (mSeq (mAsg (mApp gLstD (mCons (mApp gTupD mNil) mNil)) (gSet 1))
  (mSeq (mFor (mItems (mFrz 0)) (gSet 2) (mSeq (mAsg (mApp gLstD mNil) (gSet 3))
  (mSeq (mFor (mItems (mFrz 1)) (gSet 4) (mSeq (mAsg (mBin gAdd (mFrz 3) (mLc (mItems (mBin gIx (mFrz 2) (mC (.int 1)))) (gSet 5) mYes (mBin gAdd (mFrz 4) (mApp gTupD (mCons (mFrz 5) mNil))) [5])) (gSet 3))
  mNext))
  (mSeq (mAsg (mFrz 3) (gSet 1))
  mNext))))
  (mSeq (mRet (mFrz 1))
  mNext)))
def f__law_fillings : List D → Option (D × List D) := runD N__law_fillings.length [] m__law_fillings
theorem ok__law_fillings {P : Program} {w : World} {K : PySem.W.Frag} {mg : Str → Option Value} {base : Heap} {a : Ad} {d : Fd} (T : Txt w K mg base a d) : FnOk P w K mg base CX0 1 a.a__law_fillings d.d__law_fillings P__law_fillings (spD K a.tabs [] P__law_fillings.length f__law_fillings) := by
  refine okD (k := 0) T.F__law_fillings sc__law_fillings fun A outer s H E S A0 hr => ?_
  exact (ss_cons (s_asg (x_lst (pe_lst (xa_cons (x_tup (FrzT.pe_tupF xa_nil)) xa_nil))) (gn 1 sc__law_fillings.nd))
      (ss_cons (s_for PassesOwn.never rfl (w_seq (xf 0)) (fun _ => (gn 2 sc__law_fillings.nd)) (fun _ => (ss_cons (s_asg (x_lst (pe_lst xa_nil)) (gn 3 sc__law_fillings.nd))
      (ss_cons (s_for PassesOwn.never rfl (w_seq (xf 1)) (fun _ => (gn 4 sc__law_fillings.nd)) (fun _ => (ss_cons (s_asg (x_bin o_add (xf 3) (x_new (x_lc (own := [("v", 5)]) rfl sc__law_fillings.nd (w_seq (x_ix (o_ix (hu_of hr)) (xf 2) x_int (fun _ _ => rfl))) (blkOk_by (own := [("v", 5)]) (N := N__law_fillings) (sc := defScope s__law_fillings) (by decide +kernel)) (fun _ _ _ _ _ _ => (gnW 5 sc__law_fillings.nd)) (fun _ _ _ _ _ _ => ts_nil) (fun _ _ _ _ _ _ => (x_bin o_add (xf 4) (x_tup (FrzT.pe_tupF (xa_cons (xf 5) xa_nil))))) (hv := nios rfl)))) (gn 3 sc__law_fillings.nd))
      ss_nil)))
      (ss_cons (s_asg (xf 3) (gn 1 sc__law_fillings.nd))
      ss_nil)))))
      (ss_cons (sret (xf 1))
      ss_nil)))
/-! ### _law_world -/
def m__law_world : MS :=
  (mSeq (mAsg (mC (.dict [])) (gOwn 2))
  (mSeq (mFor (mRange gRange1 (mCons (mApp gLen (mCons (mFrz 0) mNil)) mNil)) (gSet 3) (mSeq (mPut 2 (mBin gIx (mBin gIx (mFrz 0) (mFrz 3)) (mC (.int 0))) (mBin gIx (mFrz 1) (mFrz 3)))
  mNext))
  (mSeq (mRet (mFrz 2))
  mNext)))
def f__law_world : List D → Option (D × List D) := runD N__law_world.length [] m__law_world
theorem ok__law_world {P : Program} {w : World} {K : PySem.W.Frag} {mg : Str → Option Value} {base : Heap} {a : Ad} {d : Fd} (T : Txt w K mg base a d) : FnOk P w K mg base CX0 1 a.a__law_world d.d__law_world P__law_world (spD K a.tabs [] P__law_world.length f__law_world) := by
  refine okD (k := 0) T.F__law_world sc__law_world fun A outer s H E S A0 hr => ?_
  exact (ss_cons (sown 2 sc__law_world.nd x_dicN)
      (ss_cons (s_for PassesOwn.never rfl (w_range1 (by rfl) T.z_range (xa_cons (x_callB c_len (by rfl) T.z_len (by decide +kernel) (xa_cons (xf 0) xa_nil)) xa_nil)) (fun _ => (gn 3 sc__law_world.nd)) (fun _ => (ss_cons (sput 2 (hu_of hr) (x_ix (o_ix (hu_of hr)) (x_ix (o_ix (hu_of hr)) (xf 0) (xf 3) (fun _ _ => rfl)) x_int (fun _ _ => rfl)) (x_ix (o_ix (hu_of hr)) (xf 1) (xf 3) (fun _ _ => rfl)))
      ss_nil)))
      (ss_cons (sret (xf 2))
      ss_nil)))
/-! ### _law_near -/
def m__law_near : MS :=
  (mSeq (mAsg (mApp gListOf (mCons (mFrz 2) mNil)) (gOwn 3))
  (mSeq (mFor (mRange gRange1 (mCons (mCall f__law_pick [some 0, none] (mConsIo 0 (mCons (mApp gLstD (mCons (mC (.int 0)) (mCons (mC (.int 1)) (mCons (mC (.int 1)) (mCons (mC (.int 1)) (mCons (mC (.int 2)) (mCons (mC (.int 3)) (mCons (mBin gMul (mC (.int 2)) (mApp gLen (mCons (mFrz 1) mNil))) mNil)))))))) mNil))) mNil)) (gSet 4) (mSeq (mAsg (mCall f__law_take [some 0, none] (mConsIo 0 (mCons (mApp gLen (mCons (mFrz 1) mNil)) mNil))) (gSet 5))
  (mSeq (mPut 3 (mFrz 5) (mCall f__law_pick [some 0, none] (mConsIo 0 (mCons (mBin gIx (mBin gIx (mFrz 1) (mFrz 5)) (mC (.int 1))) mNil))))
  mNext)))
  (mSeq (mRet (mApp gTupOf (mCons (mVar 3) mNil)))
  mNext)))
def f__law_near : List D → Option (D × List D) := runD N__law_near.length [0] m__law_near
theorem ok__law_near {P : Program} {w : World} {K : PySem.W.Frag} {mg : Str → Option Value} {base : Heap} {a : Ad} {d : Fd} (T : Txt w K mg base a d) : FnOk P w K mg base CX0 4 a.a__law_near d.d__law_near P__law_near (spD K a.tabs [0] P__law_near.length f__law_near) := by
  have G__law_pick := ok__law_pick (P := P) (w := w) T
  have G__law_take := ok__law_take (P := P) (w := w) T
  refine okD (k := 3) T.F__law_near sc__law_near fun A outer s H E S A0 hr => ?_
  exact (ss_cons (sown 3 sc__law_near.nd (x_callTyN (c_listN rfl) (by rfl) T.z_list (by decide +kernel) (xa_cons (xf 2) xa_nil)))
      (ss_cons (s_for PassesOwn.never rfl (w_range1 (by rfl) T.z_range (xa_cons (x_call (ts := [some 0, none]) G__law_pick (hr.mono (by decide)) (by rfl) T.m__law_pick T.k__law_pick T.b__law_pick (xcio 0 (xc_plain (x_lst (pe_lst (xa_cons x_int (xa_cons x_int (xa_cons x_int (xa_cons x_int (xa_cons x_int (xa_cons x_int (xa_cons (x_bin o_mul x_int (x_callB c_len (by rfl) T.z_len (by decide +kernel) (xa_cons (xf 1) xa_nil))) xa_nil))))))))) xc_nil))) xa_nil)) (fun _ => (gn 4 sc__law_near.nd)) (fun _ => (ss_cons (s_asg (x_call (ts := [some 0, none]) G__law_take (hr.mono (by decide)) (by rfl) T.m__law_take T.k__law_take T.b__law_take (xcio 0 (xc_plain (x_callB c_len (by rfl) T.z_len (by decide +kernel) (xa_cons (xf 1) xa_nil)) xc_nil))) (gn 5 sc__law_near.nd))
      (ss_cons (sput 3 (hu_of hr) (xf 5) (x_call (ts := [some 0, none]) G__law_pick (hr.mono (by decide)) (by rfl) T.m__law_pick T.k__law_pick T.b__law_pick (xcio 0 (xc_plain (x_ix (o_ix (hu_of hr)) (x_ix (o_ix (hu_of hr)) (xf 1) (xf 5) (fun _ _ => rfl)) x_int (fun _ _ => rfl)) xc_nil))))
      ss_nil))))
      (ss_cons (sret (x_callTy c_tuple (by rfl) T.z_tuple (by decide +kernel) (xa_cons (xv 3) xa_nil)))
      ss_nil)))
/-! ### _law_walk -/
def m__law_walk : MS :=
  (mSeq (mAsg (mBin gIx (mFrz 0) (mC (.int 2))) (gSet 2))
  (mSeq (mFor (mItems (mBin gIx (mFrz 0) (mC (.int 1)))) (gSet 3) (mSeq (mAsg (mLc (mItems (mBin gIx (mFrz 0) (mC (.int 3)))) (gSet 5) (mAndT (mB (mBin gEq (mBin gIx (mFrz 5) (mC (.int 0))) (mFrz 2))) (mB (mBin gEq (mBin gIx (mFrz 5) (mC (.int 1))) (mBin gIx (mFrz 1) (mFrz 3))))) (mBin gIx (mFrz 5) (mC (.int 2))) [5]) (gSet 4))
  (mSeq (mIfS (mB (mBin gEq (mFrz 4) (mApp gLstD mNil))) (mSeq (mRet (mC .none))
  mNext) mNext)
  (mSeq (mAsg (mBin gIx (mFrz 4) (mC (.int 0))) (gSet 2))
  mNext))))
  (mSeq (mRet (mFrz 2))
  mNext)))
def f__law_walk : List D → Option (D × List D) := runD N__law_walk.length [] m__law_walk
theorem ok__law_walk {P : Program} {w : World} {K : PySem.W.Frag} {mg : Str → Option Value} {base : Heap} {a : Ad} {d : Fd} (T : Txt w K mg base a d) : FnOk P w K mg base CX0 1 a.a__law_walk d.d__law_walk P__law_walk (spD K a.tabs [] P__law_walk.length f__law_walk) := by
  refine okD (k := 0) T.F__law_walk sc__law_walk fun A outer s H E S A0 hr => ?_
  exact (ss_cons (s_asg (x_ix (o_ix (hu_of hr)) (xf 0) x_int (fun _ _ => rfl)) (gn 2 sc__law_walk.nd))
      (ss_cons (s_for PassesOwn.never rfl (w_seq (x_ix (o_ix (hu_of hr)) (xf 0) x_int (fun _ _ => rfl))) (fun _ => (gn 3 sc__law_walk.nd)) (fun _ => (ss_cons (sset_lc 4 (own := [("move", 5)]) rfl sc__law_walk.nd (w_seq (x_ix (o_ix (hu_of hr)) (xf 0) x_int (fun _ _ => rfl))) (blkOk_by (own := [("move", 5)]) (N := N__law_walk) (sc := defScope s__law_walk) (by decide +kernel)) (fun _ _ _ _ _ _ => (gnW 5 sc__law_walk.nd)) (fun _ _ _ _ _ _ => (ts_one (PW.pt (t_and (t_cmp (o_eq hr.units) (x_ix (o_ix (hu_of hr)) (xf 5) x_int (fun _ _ => rfl)) (xf 2)) (t_and1 (t_cmp (o_eq hr.units) (x_ix (o_ix (hu_of hr)) (xf 5) x_int (fun _ _ => rfl)) (x_ix (o_ix (hu_of hr)) (xf 1) (xf 3) (fun _ _ => rfl)))))))) (fun _ _ _ _ _ _ => (x_ix (o_ix (hu_of hr)) (xf 5) x_int (fun _ _ => rfl))) (hv := nios rfl))
      (ss_cons (s_if (t_cmp (o_eq hr.units) (xf 4) (x_lst (pe_lst xa_nil))) (ss_cons (sret x_non)
      ss_nil) ss_nil)
      (ss_cons (s_asg (x_ix (o_ix (hu_of hr)) (xf 4) x_int (fun _ _ => rfl)) (gn 2 sc__law_walk.nd))
      ss_nil)))))
      (ss_cons (sret (xf 2))
      ss_nil)))
/-! ### _law_holds -/
def m__law_holds : MS :=
  (mSeq (mIfS (mB (mBin gEq (mBin gIx (mFrz 0) (mC (.int 0))) (mC (.str "product")))) (mSeq (mRet (mBin gEq (mBin gMul (mBin gIx (mFrz 1) (mBin gIx (mFrz 0) (mC (.int 1)))) (mBin gIx (mFrz 1) (mBin gIx (mFrz 0) (mC (.int 2))))) (mBin gIx (mFrz 1) (mBin gIx (mFrz 0) (mC (.int 3))))))
  mNext) mNext)
  (mSeq (mIfS (mB (mBin gEq (mBin gIx (mFrz 0) (mC (.int 0))) (mC (.str "machine")))) (mSeq (mAsg (mCall f__law_walk [none, none] (mCons (mFrz 0) (mCons (mFrz 1) mNil))) (gSet 2))
  (mSeq (mRet (mAndV (mBin gIsNot (mFrz 2) (mC .none)) (mBin gIn (mFrz 2) (mBin gIx (mFrz 0) (mC (.int 4))))))
  mNext)) mNext)
  (mSeq (mFor (mRange gRange1 (mCons (mApp gLen (mCons (mBin gIx (mFrz 0) (mC (.int 1))) mNil)) mNil)) (gSet 3) (mSeq (mPar 4 5 (mCons (mBin gIx (mFrz 1) (mBin gIx (mBin gIx (mFrz 0) (mC (.int 1))) (mFrz 3))) (mCons (mBin gIx (mFrz 1) (mBin gIx (mBin gIx (mFrz 0) (mC (.int 2))) (mFrz 3))) mNil)))
  (mSeq (mIfS (mB (mBin gNe (mFrz 4) (mFrz 5))) (mSeq (mRet (mBin gLt (mFrz 4) (mFrz 5)))
  mNext) mNext)
  mNext)))
  (mSeq (mRet (mC (.bool true)))
  mNext))))
def f__law_holds : List D → Option (D × List D) := runD N__law_holds.length [] m__law_holds
theorem ok__law_holds {P : Program} {w : World} {K : PySem.W.Frag} {mg : Str → Option Value} {base : Heap} {a : Ad} {d : Fd} (T : Txt w K mg base a d) : FnOk P w K mg base CX0 2 a.a__law_holds d.d__law_holds P__law_holds (spD K a.tabs [] P__law_holds.length f__law_holds) := by
  have G__law_walk := ok__law_walk (P := P) (w := w) T
  refine okD (k := 1) T.F__law_holds sc__law_holds fun A outer s H E S A0 hr => ?_
  exact (ss_cons (s_if (t_cmp (o_eq hr.units) (x_ix (o_ix (hu_of hr)) (xf 0) x_int (fun _ _ => rfl)) x_str) (ss_cons (sret (x_cmp (o_eq hr.units) (x_bin o_mul (x_ix (o_ix (hu_of hr)) (xf 1) (x_ix (o_ix (hu_of hr)) (xf 0) x_int (fun _ _ => rfl)) (fun _ _ => rfl)) (x_ix (o_ix (hu_of hr)) (xf 1) (x_ix (o_ix (hu_of hr)) (xf 0) x_int (fun _ _ => rfl)) (fun _ _ => rfl))) (x_ix (o_ix (hu_of hr)) (xf 1) (x_ix (o_ix (hu_of hr)) (xf 0) x_int (fun _ _ => rfl)) (fun _ _ => rfl))))
      ss_nil) ss_nil)
      (ss_cons (s_if (t_cmp (o_eq hr.units) (x_ix (o_ix (hu_of hr)) (xf 0) x_int (fun _ _ => rfl)) x_str) (ss_cons (s_asg (x_call (ts := [none, none]) G__law_walk (hr.mono (by decide)) (by rfl) T.m__law_walk T.k__law_walk T.b__law_walk (xc_plain (xf 0) (xc_plain (xf 1) xc_nil))) (gn 2 sc__law_holds.nd))
      (ss_cons (sret (x_and (x_cmp o_isnot (xf 2) x_non) (x_one (x_cmp (o_in (hu65 hr)) (xf 2) (x_ix (o_ix (hu_of hr)) (xf 0) x_int (fun _ _ => rfl))))))
      ss_nil)) ss_nil)
      (ss_cons (s_for PassesOwn.never rfl (w_range1 (by rfl) T.z_range (xa_cons (x_callB c_len (by rfl) T.z_len (by decide +kernel) (xa_cons (x_ix (o_ix (hu_of hr)) (xf 0) x_int (fun _ _ => rfl)) xa_nil)) xa_nil)) (fun _ => (gn 3 sc__law_holds.nd)) (fun _ => (ss_cons (spar 4 5 sc__law_holds.nd (xa_cons (x_ix (o_ix (hu_of hr)) (xf 1) (x_ix (o_ix (hu_of hr)) (x_ix (o_ix (hu_of hr)) (xf 0) x_int (fun _ _ => rfl)) (xf 3) (fun _ _ => rfl)) (fun _ _ => rfl)) (xa_cons (x_ix (o_ix (hu_of hr)) (xf 1) (x_ix (o_ix (hu_of hr)) (x_ix (o_ix (hu_of hr)) (xf 0) x_int (fun _ _ => rfl)) (xf 3) (fun _ _ => rfl)) (fun _ _ => rfl)) xa_nil)))
      (ss_cons (s_if (t_cmp (o_ne hr.units) (xf 4) (xf 5)) (ss_cons (sret (x_cmp o_lt (xf 4) (xf 5)))
      ss_nil) ss_nil)
      ss_nil))))
      (ss_cons (sret x_bl)
      ss_nil))))
/-! ### _law_are_held -/
def m__law_are_held : MS :=
  (mSeq (mAsg (mLc (mItems (mFrz 3)) (gSet 15) mYes (mBin gAdd (mC (.int 1)) (mCall f__law_take [some 0, none] (mConsIo 0 (mCons (mC (.int 100)) mNil)))) [15]) (gSet 5))
  (mSeq (mAsg (mApp gTupD (mCons (mApp gTupOf (mCons (mFrz 1) mNil)) (mCons (mApp gTupOf (mCons (mFrz 2) mNil)) (mCons (mApp gTupOf (mCons (mLc (mRange gRange1 (mCons (mApp gLen (mCons (mFrz 3) mNil)) mNil)) (gSet 10) mYes (mBin gAdd (mBin gIx (mFrz 3) (mFrz 10)) (mApp gTupD (mCons (mBin gIx (mFrz 5) (mFrz 10)) mNil))) [10]) mNil)) mNil)))) (gSet 6))
  (mSeq (mFor (mItems (mFrz 4)) (gSet 7) (mSeq (mAsg (mCall f__law_world [none, none] (mCons (mFrz 1) (mCons (mFrz 7) mNil))) (gSet 8))
  (mSeq (mAsg (mC (.bool true)) (gSet 9))
  (mSeq (mFor (mRange gRange1 (mCons (mBin gAdd (mApp gLen (mCons (mFrz 2) mNil)) (mApp gLen (mCons (mFrz 3) mNil))) mNil)) (gSet 10) (mSeq (mAsg (mBin gIx (mBin gAdd (mFrz 2) (mFrz 3)) (mFrz 10)) (gTupT 2 (gsCons (gSet 11) (gsCons (gSet 12) gsNil))))
  (mSeq (mAsg (mCall f__law_holds [none, none] (mCons (mFrz 12) (mCons (mFrz 8) mNil))) (gSet 13))
  (mSeq (mAsg (mCallK f_keeps_saying ga_keeps_saying_model_name_filling (mCons (mFrz 6) (mCons (mFrz 11) (mCons (mFrz 7) mNil)))) (gSet 14))
  (mSeq (mIfS (mNotT (mB (mCall f__law_is_due [none, none] (mCons (mFrz 14) (mCons (mFrz 13) mNil))))) (mSeq (mRet (mC (.bool false)))
  mNext) mNext)
  (mSeq (mAsg (mAndV (mFrz 9) (mOrV (mFrz 13) (mBin gGe (mFrz 10) (mApp gLen (mCons (mFrz 2) mNil))))) (gSet 9))
  mNext))))))
  (mSeq (mIfS (mOrT (mNotT (mB (mCall f__law_is_due [none, none] (mCons (mCall f_keeps [none, none] (mCons (mFrz 6) (mCons (mFrz 7) mNil))) (mCons (mFrz 9) mNil))))) (mNotT (mB (mCall f__law_is_due [none, none] (mCons (mCallK f_keeps ga_keeps_model_filling (mCons (mFrz 6) (mCons (mFrz 7) mNil))) (mCons (mFrz 9) mNil)))))) (mSeq (mRet (mC (.bool false)))
  mNext) mNext)
  (mSeq (mIfS (mAndT (mB (mBin gGt (mApp gLen (mCons (mFrz 3) mNil)) (mC (.int 0)))) (mNotT (mB (mCall f__law_is_due [none, none] (mCons (mCall f_keeps_saying [none, none, none] (mCons (mFrz 6) (mCons (mBin gIx (mBin gIx (mFrz 3) (mC (.int 0))) (mC (.int 0))) (mCons (mFrz 7) mNil)))) (mCons (mCall f__law_holds [none, none] (mCons (mBin gIx (mBin gIx (mFrz 3) (mC (.int 0))) (mC (.int 1))) (mCons (mFrz 8) mNil))) mNil)))))) (mSeq (mRet (mC (.bool false)))
  mNext) mNext)
  mNext))))))
  (mSeq (mRet (mC (.bool true)))
  mNext))))
def f__law_are_held : List D → Option (D × List D) := runD N__law_are_held.length [0] m__law_are_held
theorem ok__law_are_held {P : Program} {w : World} {K : PySem.W.Frag} {mg : Str → Option Value} {base : Heap} {a : Ad} {d : Fd} (T : Txt w K mg base a d) : FnOk P w K mg base CX0 8 a.a__law_are_held d.d__law_are_held P__law_are_held (spD K a.tabs [0] P__law_are_held.length f__law_are_held) := by
  have G__law_is_due := ok__law_is_due (P := P) (w := w) T
  have G__law_holds := ok__law_holds (P := P) (w := w) T
  have G_keeps_saying := ok_keeps_saying (P := P) (w := w) T
  have G_keeps := ok_keeps (P := P) (w := w) T
  have G__law_world := ok__law_world (P := P) (w := w) T
  have G__law_take := ok__law_take (P := P) (w := w) T
  refine okD (k := 7) T.F__law_are_held sc__law_are_held fun A outer s H E S A0 hr => ?_
  exact (ss_cons (s_asg (x_new (x_lc (own := [("one", 15)]) rfl sc__law_are_held.nd (w_seq (xf 3)) (blkOk_by (own := [("one", 15)]) (N := N__law_are_held) (sc := defScope s__law_are_held) (by decide +kernel)) (fun _ _ _ _ _ _ => (gnW 15 sc__law_are_held.nd)) (fun _ _ _ _ _ _ => ts_nil) (fun _ _ _ _ _ _ => (x_bin o_add x_int (x_call (ts := [some 0, none]) G__law_take (hr.mono (by decide)) (by rfl) T.m__law_take T.k__law_take T.b__law_take (xcio 0 (xc_plain x_int xc_nil))))) (hv := nios rfl))) (gn 5 sc__law_are_held.nd))
      (ss_cons (s_asg (x_tup (FrzT.pe_tupF (xa_cons (x_callTy c_tuple (by rfl) T.z_tuple (by decide +kernel) (xa_cons (xf 1) xa_nil)) (xa_cons (x_callTy c_tuple (by rfl) T.z_tuple (by decide +kernel) (xa_cons (xf 2) xa_nil)) (xa_cons (x_callTy c_tuple (by rfl) T.z_tuple (by decide +kernel) (xa_cons (x_new (x_lc (own := [("k", 10)]) rfl sc__law_are_held.nd (w_range1 (by rfl) T.z_range (xa_cons (x_callB c_len (by rfl) T.z_len (by decide +kernel) (xa_cons (xf 3) xa_nil)) xa_nil)) (blkOk_by (own := [("k", 10)]) (N := N__law_are_held) (sc := defScope s__law_are_held) (by decide +kernel)) (fun _ _ _ _ _ _ => (gnW 10 sc__law_are_held.nd)) (fun _ _ _ _ _ _ => ts_nil) (fun _ _ _ _ _ _ => (x_bin o_add (x_ix (o_ix (hu_of hr)) (xf 3) (xf 10) (fun _ _ => rfl)) (x_tup (FrzT.pe_tupF (xa_cons (x_ix (o_ix (hu_of hr)) (xf 5) (xf 10) (fun _ _ => rfl)) xa_nil))))) (hv := nios rfl))) xa_nil)) xa_nil))))) (gn 6 sc__law_are_held.nd))
      (ss_cons (s_for PassesOwn.never rfl (w_seq (xf 4)) (fun _ => (gn 7 sc__law_are_held.nd)) (fun _ => (ss_cons (s_asg (x_call (ts := [none, none]) G__law_world (hr.mono (by decide)) (by rfl) T.m__law_world T.k__law_world T.b__law_world (xc_plain (xf 1) (xc_plain (xf 7) xc_nil))) (gn 8 sc__law_are_held.nd))
      (ss_cons (s_asg x_bl (gn 9 sc__law_are_held.nd))
      (ss_cons (s_for PassesOwn.never rfl (w_range1 (by rfl) T.z_range (xa_cons (x_bin o_add (x_callB c_len (by rfl) T.z_len (by decide +kernel) (xa_cons (xf 2) xa_nil)) (x_callB c_len (by rfl) T.z_len (by decide +kernel) (xa_cons (xf 3) xa_nil))) xa_nil)) (fun _ => (gn 10 sc__law_are_held.nd)) (fun _ => (ss_cons (s_asg (x_ix (o_ix (hu_of hr)) (x_bin o_add (xf 2) (xf 3)) (xf 10) (fun _ _ => rfl)) (g_tup rfl (gs_cons (gn 11 sc__law_are_held.nd) (gs_cons (gn 12 sc__law_are_held.nd) gs_nil gSet_keep) gSet_keep)))
      (ss_cons (s_asg (x_call (ts := [none, none]) G__law_holds (hr.mono (by decide)) (by rfl) T.m__law_holds T.k__law_holds T.b__law_holds (xc_plain (xf 12) (xc_plain (xf 8) xc_nil))) (gn 13 sc__law_are_held.nd))
      (ss_cons (s_asg (x_callK0 G_keeps_saying (hr.mono (by decide)) (by rfl) T.m_keeps_saying T.k_keeps_saying T.kb_keeps_saying_model_name_filling (k_cons (xf 6) (k_cons (xf 11) (k_cons (xf 7) k_nil))) gaR_keeps_saying_model_name_filling (mlen_ga (mlen_cons (mlen_cons (mlen_cons mlen_nil))) gaL_keeps_saying_model_name_filling) runD_len) (gn 14 sc__law_are_held.nd))
      (ss_cons (s_if (t_not (t_val (x_call (ts := [none, none]) G__law_is_due (hr.mono (by decide)) (by rfl) T.m__law_is_due T.k__law_is_due T.b__law_is_due (xc_plain (xf 14) (xc_plain (xf 13) xc_nil))))) (ss_cons (sret x_bl)
      ss_nil) ss_nil)
      (ss_cons (s_asg (x_and (xf 9) (x_one (x_or (xf 13) (x_one (x_cmp o_ge (xf 10) (x_callB c_len (by rfl) T.z_len (by decide +kernel) (xa_cons (xf 2) xa_nil))))))) (gn 9 sc__law_are_held.nd))
      ss_nil)))))))
      (ss_cons (s_if (PW.pt (t_or (t_not (t_val (x_call (ts := [none, none]) G__law_is_due (hr.mono (by decide)) (by rfl) T.m__law_is_due T.k__law_is_due T.b__law_is_due (xc_plain (x_call (ts := [none, none]) G_keeps (hr.mono (by decide)) (by rfl) T.m_keeps T.k_keeps T.b_keeps (xc_plain (xf 6) (xc_plain (xf 7) xc_nil))) (xc_plain (xf 9) xc_nil))))) (t_or1 (t_not (t_val (x_call (ts := [none, none]) G__law_is_due (hr.mono (by decide)) (by rfl) T.m__law_is_due T.k__law_is_due T.b__law_is_due (xc_plain (x_callK0 G_keeps (hr.mono (by decide)) (by rfl) T.m_keeps T.k_keeps T.kb_keeps_model_filling (k_cons (xf 6) (k_cons (xf 7) k_nil)) gaR_keeps_model_filling (mlen_ga (mlen_cons (mlen_cons mlen_nil)) gaL_keeps_model_filling) runD_len) (xc_plain (xf 9) xc_nil)))))))) (ss_cons (sret x_bl)
      ss_nil) ss_nil)
      (ss_cons (s_if (PW.pt (t_and (t_cmp o_gt (x_callB c_len (by rfl) T.z_len (by decide +kernel) (xa_cons (xf 3) xa_nil)) x_int) (t_and1 (t_not (t_val (x_call (ts := [none, none]) G__law_is_due (hr.mono (by decide)) (by rfl) T.m__law_is_due T.k__law_is_due T.b__law_is_due (xc_plain (x_call (ts := [none, none, none]) G_keeps_saying (hr.mono (by decide)) (by rfl) T.m_keeps_saying T.k_keeps_saying T.b_keeps_saying (xc_plain (xf 6) (xc_plain (x_ix (o_ix (hu_of hr)) (x_ix (o_ix (hu_of hr)) (xf 3) x_int (fun _ _ => rfl)) x_int (fun _ _ => rfl)) (xc_plain (xf 7) xc_nil)))) (xc_plain (x_call (ts := [none, none]) G__law_holds (hr.mono (by decide)) (by rfl) T.m__law_holds T.k__law_holds T.b__law_holds (xc_plain (x_ix (o_ix (hu_of hr)) (x_ix (o_ix (hu_of hr)) (xf 3) x_int (fun _ _ => rfl)) x_int (fun _ _ => rfl)) (xc_plain (xf 8) xc_nil))) xc_nil)))))))) (ss_cons (sret x_bl)
      ss_nil) ss_nil)
      ss_nil)))))))
      (ss_cons (sret x_bl)
      ss_nil))))
/-! ### _law_parted -/
def m__law_parted : MS :=
  (mSeq (mAsg (mCall f__law_take [some 0, none] (mConsIo 0 (mCons (mApp gLen (mCons (mFrz 1) mNil)) mNil))) (gSet 3))
  (mSeq (mAsg (mLc (mItems (mSl (mFrz 1) (mP (mFrz 3)) mNoP)) (gSet 5) (mOrT (mB (mCall f__law_holds [none, none] (mCons (mBin gIx (mFrz 5) (mC (.int 1))) (mCons (mFrz 2) mNil)))) (mB (mBin gEq (mCall f__law_take [some 0, none] (mConsIo 0 (mCons (mC (.int 3)) mNil))) (mC (.int 0))))) (mFrz 5) [5]) (gSet 4))
  (mSeq (mRet (mApp gLstD (mCons (mFrz 4) (mCons (mLc (mItems (mFrz 1)) (gSet 5) (mB (mBin gNotIn (mFrz 5) (mFrz 4))) (mFrz 5) [5]) mNil))))
  mNext)))
def f__law_parted : List D → Option (D × List D) := runD N__law_parted.length [0] m__law_parted
theorem ok__law_parted {P : Program} {w : World} {K : PySem.W.Frag} {mg : Str → Option Value} {base : Heap} {a : Ad} {d : Fd} (T : Txt w K mg base a d) : FnOk P w K mg base CX0 3 a.a__law_parted d.d__law_parted P__law_parted (spD K a.tabs [0] P__law_parted.length f__law_parted) := by
  have G__law_holds := ok__law_holds (P := P) (w := w) T
  have G__law_take := ok__law_take (P := P) (w := w) T
  refine okD (k := 2) T.F__law_parted sc__law_parted fun A outer s H E S A0 hr => ?_
  exact (ss_cons (s_asg (x_call (ts := [some 0, none]) G__law_take (hr.mono (by decide)) (by rfl) T.m__law_take T.k__law_take T.b__law_take (xcio 0 (xc_plain (x_callB c_len (by rfl) T.z_len (by decide +kernel) (xa_cons (xf 1) xa_nil)) xc_nil))) (gn 3 sc__law_parted.nd))
      (ss_cons (s_asg (x_new (x_lc (own := [("one", 5)]) rfl sc__law_parted.nd (w_seq (x_slice (xf 1) (xo_some (xf 3)) xo_none)) (blkOk_by (own := [("one", 5)]) (N := N__law_parted) (sc := defScope s__law_parted) (by decide +kernel)) (fun _ _ _ _ _ _ => (gnW 5 sc__law_parted.nd)) (fun _ _ _ _ _ _ => (ts_one (PW.pt (t_or (t_val (x_call (ts := [none, none]) G__law_holds (hr.mono (by decide)) (by rfl) T.m__law_holds T.k__law_holds T.b__law_holds (xc_plain (x_ix (o_ix (hu_of hr)) (xf 5) x_int (fun _ _ => rfl)) (xc_plain (xf 2) xc_nil)))) (t_or1 (t_cmp (o_eq hr.units) (x_call (ts := [some 0, none]) G__law_take (hr.mono (by decide)) (by rfl) T.m__law_take T.k__law_take T.b__law_take (xcio 0 (xc_plain x_int xc_nil))) x_int)))))) (fun _ _ _ _ _ _ => (xf 5)) (hv := nios rfl))) (gn 4 sc__law_parted.nd))
      (ss_cons (sret (x_lst (pe_lst (xa_cons (xf 4) (xa_cons (x_new (x_lc (own := [("one", 5)]) rfl sc__law_parted.nd (w_seq (xf 1)) (blkOk_by (own := [("one", 5)]) (N := N__law_parted) (sc := defScope s__law_parted) (by decide +kernel)) (fun _ _ _ _ _ _ => (gnW 5 sc__law_parted.nd)) (fun _ _ _ _ _ _ => (ts_one (t_cmp (o_notIn (hu65 hr)) (xf 5) (xf 4)))) (fun _ _ _ _ _ _ => (xf 5)) (hv := nios rfl))) xa_nil)))))
      ss_nil)))
/-! ### _law_machine -/
def m__law_machine : MS :=
  (mSeq (mAsg (mLc (mItems (mSl (mCall f__law_shuffled [some 0, none] (mConsIo 0 (mCons (mFrz 1) mNil))) mNoP (mP (mCall f__law_pick [some 0, none] (mConsIo 0 (mCons (mApp gLstD (mCons (mBin gAdd (mC (.int 1)) (mCall f__law_take [some 0, none] (mConsIo 0 (mCons (mC (.int 12)) mNil)))) (mCons (mBin gAdd (mC (.int 1)) (mCall f__law_take [some 0, none] (mConsIo 0 (mCons (mC (.int 4)) mNil)))) (mCons (mC (.int 12)) mNil)))) mNil)))))) (gSet 13) mYes (mBin gIx (mFrz 13) (mC (.int 0))) [13]) (gSet 3))
  (mSeq (mAsg (mBin gAdd (mC (.int 1)) (mCall f__law_take [some 0, none] (mConsIo 0 (mCons (mC (.int 12)) mNil)))) (gSet 4))
  (mSeq (mAsg (mCall f__law_take [some 0, none] (mConsIo 0 (mCons (mFrz 4) mNil))) (gSet 5))
  (mSeq (mAsg (mC (.dict [])) (gOwn 6))
  (mSeq (mAsg (mFrz 5) (gSet 7))
  (mSeq (mFor (mItems (mSl (mFrz 3) mNoP (mP (mBin gSub (mApp gLen (mCons (mFrz 3) mNil)) (mApp gInt (mCons (mBin gEq (mCall f__law_take [some 0, none] (mConsIo 0 (mCons (mC (.int 4)) mNil))) (mC (.int 0))) mNil)))))) (gSet 8) (mSeq (mIfS (mB (mBin gNotInT (mApp gTupD (mCons (mFrz 7) (mCons (mBin gIx (mFrz 2) (mFrz 8)) mNil))) (mVar 6))) (mSeq (mPutT 6 (mApp gTupD (mCons (mFrz 7) (mCons (mBin gIx (mFrz 2) (mFrz 8)) mNil))) (mCall f__law_take [some 0, none] (mConsIo 0 (mCons (mFrz 4) mNil))))
  mNext) mNext)
  (mSeq (mAsg (mBin gIxT (mVar 6) (mApp gTupD (mCons (mFrz 7) (mCons (mBin gIx (mFrz 2) (mFrz 8)) mNil)))) (gSet 7))
  mNext)))
  (mSeq (mAsg (mBin gAdd (mBin gAdd (mLc (mItems (mFrz 3)) (gSet 8) mYes (mBin gIx (mFrz 2) (mFrz 8)) [8]) (mLc (mRange gRange1 (mCons (mC (.int 4)) mNil)) (gSet 10) mYes (mCall f__law_pick [some 0, none] (mConsIo 0 (mCons (mBin gIx (mCall f__law_pick [some 0, none] (mConsIo 0 (mCons (mFrz 1) mNil))) (mC (.int 1))) mNil))) [10])) (mApp gLstD (mCons (mBin gSub (mCall f__law_take [some 0, none] (mConsIo 0 (mCons (mC (.int 401)) mNil))) (mC (.int 200))) mNil))) (gSet 9))
  (mSeq (mFor (mRange gRange1 (mCons (mCall f__law_pick [some 0, none] (mConsIo 0 (mCons (mApp gLstD (mCons (mC (.int 0)) (mCons (mCall f__law_take [some 0, none] (mConsIo 0 (mCons (mC (.int 6)) mNil))) (mCons (mCall f__law_take [some 0, none] (mConsIo 0 (mCons (mC (.int 41)) mNil))) (mCons (mC (.int 40)) mNil))))) mNil))) mNil)) (gSet 10) (mSeq (mAsg (mApp gTupD (mCons (mCall f__law_take [some 0, none] (mConsIo 0 (mCons (mFrz 4) mNil))) (mCons (mCall f__law_pick [some 0, none] (mConsIo 0 (mCons (mFrz 9) mNil))) mNil))) (gSet 11))
  (mSeq (mIfS (mAndT (mB (mBin gNotInT (mFrz 11) (mVar 6))) (mB (mBin gLt (mApp gLenT (mCons (mVar 6) mNil)) (mC (.int 40))))) (mSeq (mPutT 6 (mFrz 11) (mCall f__law_take [some 0, none] (mConsIo 0 (mCons (mC (.int 12)) mNil))))
  mNext) mNext)
  mNext)))
  (mSeq (mAsg (mLc (mRange gRange1 (mCons (mC (.int 12)) mNil)) (gSet 14) (mOrT (mB (mBin gEq (mCall f__law_take [some 0, none] (mConsIo 0 (mCons (mC (.int 4)) mNil))) (mC (.int 0)))) (mAndT (mB (mBin gEq (mFrz 14) (mFrz 7))) (mB (mBin gGt (mCall f__law_take [some 0, none] (mConsIo 0 (mCons (mC (.int 4)) mNil))) (mC (.int 0)))))) (mFrz 14) [14]) (gSet 12))
  (mSeq (mIfS (mB (mBin gEq (mCall f__law_take [some 0, none] (mConsIo 0 (mCons (mC (.int 10)) mNil))) (mC (.int 0)))) (mSeq (mAsg (mApp gLstD mNil) (gSet 12))
  mNext) mNext)
  (mSeq (mRet (mApp gTupD (mCons (mC (.str "machine")) (mCons (mApp gTupOf (mCons (mFrz 3) mNil)) (mCons (mFrz 5) (mCons (mApp gTupOf (mCons (mLc (mItems (mApp gSortedT (mCons (mVar 6) mNil))) (gSet 11) mYes (mBin gAdd (mFrz 11) (mApp gTupD (mCons (mBin gIxT (mVar 6) (mFrz 11)) mNil))) [11]) mNil)) (mCons (mApp gTupOf (mCons (mFrz 12) mNil)) mNil)))))))
  mNext)))))))))))
def f__law_machine : List D → Option (D × List D) := runD N__law_machine.length [0] m__law_machine
theorem ok__law_machine {P : Program} {w : World} {K : PySem.W.Frag} {mg : Str → Option Value} {base : Heap} {a : Ad} {d : Fd} (T : Txt w K mg base a d) : FnOk P w K mg base CX0 4 a.a__law_machine d.d__law_machine P__law_machine (spD K a.tabs [0] P__law_machine.length f__law_machine) := by
  have G__law_take := ok__law_take (P := P) (w := w) T
  have G__law_pick := ok__law_pick (P := P) (w := w) T
  have G__law_shuffled := ok__law_shuffled (P := P) (w := w) T
  refine okD (k := 3) T.F__law_machine sc__law_machine fun A outer s H E S A0 hr => ?_
  exact (ss_cons (sset_lc 3 (own := [("pair", 13)]) rfl sc__law_machine.nd (w_seq (x_slice (x_call (ts := [some 0, none]) G__law_shuffled (hr.mono (by decide)) (by rfl) T.m__law_shuffled T.k__law_shuffled T.b__law_shuffled (xcio 0 (xc_plain (xf 1) xc_nil))) xo_none (xo_some (x_call (ts := [some 0, none]) G__law_pick (hr.mono (by decide)) (by rfl) T.m__law_pick T.k__law_pick T.b__law_pick (xcio 0 (xc_plain (x_lst (pe_lst (xa_cons (x_bin o_add x_int (x_call (ts := [some 0, none]) G__law_take (hr.mono (by decide)) (by rfl) T.m__law_take T.k__law_take T.b__law_take (xcio 0 (xc_plain x_int xc_nil)))) (xa_cons (x_bin o_add x_int (x_call (ts := [some 0, none]) G__law_take (hr.mono (by decide)) (by rfl) T.m__law_take T.k__law_take T.b__law_take (xcio 0 (xc_plain x_int xc_nil)))) (xa_cons x_int xa_nil))))) xc_nil)))))) (blkOk_by (own := [("pair", 13)]) (N := N__law_machine) (sc := defScope s__law_machine) (by decide +kernel)) (fun _ _ _ _ _ _ => (gnW 13 sc__law_machine.nd)) (fun _ _ _ _ _ _ => ts_nil) (fun _ _ _ _ _ _ => (x_ix (o_ix (hu_of hr)) (xf 13) x_int (fun _ _ => rfl))) (hv := nios rfl))
      (ss_cons (s_asg (x_bin o_add x_int (x_call (ts := [some 0, none]) G__law_take (hr.mono (by decide)) (by rfl) T.m__law_take T.k__law_take T.b__law_take (xcio 0 (xc_plain x_int xc_nil)))) (gn 4 sc__law_machine.nd))
      (ss_cons (s_asg (x_call (ts := [some 0, none]) G__law_take (hr.mono (by decide)) (by rfl) T.m__law_take T.k__law_take T.b__law_take (xcio 0 (xc_plain (xf 4) xc_nil))) (gn 5 sc__law_machine.nd))
      (ss_cons (sown 6 sc__law_machine.nd x_dicN)
      (ss_cons (s_asg (xf 5) (gn 7 sc__law_machine.nd))
      (ss_cons (s_for PassesOwn.never rfl (w_seq (x_slice (xf 3) xo_none (xo_some (x_bin o_sub (x_callB c_len (by rfl) T.z_len (by decide +kernel) (xa_cons (xf 3) xa_nil)) (x_callTy c_int (by rfl) T.z_int (by decide +kernel) (xa_cons (x_cmp (o_eq hr.units) (x_call (ts := [some 0, none]) G__law_take (hr.mono (by decide)) (by rfl) T.m__law_take T.k__law_take T.b__law_take (xcio 0 (xc_plain x_int xc_nil))) x_int) xa_nil)))))) (fun _ => (gn 8 sc__law_machine.nd)) (fun _ => (ss_cons (s_if (t_cmp (o_notInT (hu_of hr)) (x_tup (FrzT.pe_tupF (xa_cons (xf 7) (xa_cons (x_ix (o_ix (hu_of hr)) (xf 2) (xf 8) (fun _ _ => rfl)) xa_nil)))) (xv 6)) (ss_cons (sputT 6 (hu_of hr) (x_tup (FrzT.pe_tupF (xa_cons (xf 7) (xa_cons (x_ix (o_ix (hu_of hr)) (xf 2) (xf 8) (fun _ _ => rfl)) xa_nil)))) (x_call (ts := [some 0, none]) G__law_take (hr.mono (by decide)) (by rfl) T.m__law_take T.k__law_take T.b__law_take (xcio 0 (xc_plain (xf 4) xc_nil))))
      ss_nil) ss_nil)
      (ss_cons (s_asg (x_ix (o_ixT (hu_of hr)) (xv 6) (x_tup (FrzT.pe_tupF (xa_cons (xf 7) (xa_cons (x_ix (o_ix (hu_of hr)) (xf 2) (xf 8) (fun _ _ => rfl)) xa_nil)))) (fun _ _ => rfl)) (gn 7 sc__law_machine.nd))
      ss_nil))))
      (ss_cons (s_asg (x_bin o_add (x_bin o_add (x_new (x_lc (own := [("x", 8)]) rfl sc__law_machine.nd (w_seq (xf 3)) (blkOk_by (own := [("x", 8)]) (N := N__law_machine) (sc := defScope s__law_machine) (by decide +kernel)) (fun _ _ _ _ _ _ => (gnW 8 sc__law_machine.nd)) (fun _ _ _ _ _ _ => ts_nil) (fun _ _ _ _ _ _ => (x_ix (o_ix (hu_of hr)) (xf 2) (xf 8) (fun _ _ => rfl))) (hv := nios rfl))) (x_new (x_lc (own := [("k", 10)]) rfl sc__law_machine.nd (w_range1 (by rfl) T.z_range (xa_cons x_int xa_nil)) (blkOk_by (own := [("k", 10)]) (N := N__law_machine) (sc := defScope s__law_machine) (by decide +kernel)) (fun _ _ _ _ _ _ => (gnW 10 sc__law_machine.nd)) (fun _ _ _ _ _ _ => ts_nil) (fun _ _ _ _ _ _ => (x_call (ts := [some 0, none]) G__law_pick (hr.mono (by decide)) (by rfl) T.m__law_pick T.k__law_pick T.b__law_pick (xcio 0 (xc_plain (x_ix (o_ix (hu_of hr)) (x_call (ts := [some 0, none]) G__law_pick (hr.mono (by decide)) (by rfl) T.m__law_pick T.k__law_pick T.b__law_pick (xcio 0 (xc_plain (xf 1) xc_nil))) x_int (fun _ _ => rfl)) xc_nil)))) (hv := nios rfl)))) (x_lst (pe_lst (xa_cons (x_bin o_sub (x_call (ts := [some 0, none]) G__law_take (hr.mono (by decide)) (by rfl) T.m__law_take T.k__law_take T.b__law_take (xcio 0 (xc_plain x_int xc_nil))) x_int) xa_nil)))) (gn 9 sc__law_machine.nd))
      (ss_cons (s_for PassesOwn.never rfl (w_range1 (by rfl) T.z_range (xa_cons (x_call (ts := [some 0, none]) G__law_pick (hr.mono (by decide)) (by rfl) T.m__law_pick T.k__law_pick T.b__law_pick (xcio 0 (xc_plain (x_lst (pe_lst (xa_cons x_int (xa_cons (x_call (ts := [some 0, none]) G__law_take (hr.mono (by decide)) (by rfl) T.m__law_take T.k__law_take T.b__law_take (xcio 0 (xc_plain x_int xc_nil))) (xa_cons (x_call (ts := [some 0, none]) G__law_take (hr.mono (by decide)) (by rfl) T.m__law_take T.k__law_take T.b__law_take (xcio 0 (xc_plain x_int xc_nil))) (xa_cons x_int xa_nil)))))) xc_nil))) xa_nil)) (fun _ => (gn 10 sc__law_machine.nd)) (fun _ => (ss_cons (s_asg (x_tup (FrzT.pe_tupF (xa_cons (x_call (ts := [some 0, none]) G__law_take (hr.mono (by decide)) (by rfl) T.m__law_take T.k__law_take T.b__law_take (xcio 0 (xc_plain (xf 4) xc_nil))) (xa_cons (x_call (ts := [some 0, none]) G__law_pick (hr.mono (by decide)) (by rfl) T.m__law_pick T.k__law_pick T.b__law_pick (xcio 0 (xc_plain (xf 9) xc_nil))) xa_nil)))) (gn 11 sc__law_machine.nd))
      (ss_cons (s_if (PW.pt (t_and (t_cmp (o_notInT (hu_of hr)) (xf 11) (xv 6)) (t_and1 (t_cmp o_lt (x_callB c_lenT (by rfl) T.z_len (by decide +kernel) (xa_cons (xv 6) xa_nil)) x_int)))) (ss_cons (sputT 6 (hu_of hr) (xf 11) (x_call (ts := [some 0, none]) G__law_take (hr.mono (by decide)) (by rfl) T.m__law_take T.k__law_take T.b__law_take (xcio 0 (xc_plain x_int xc_nil))))
      ss_nil) ss_nil)
      ss_nil))))
      (ss_cons (sset_lc 12 (own := [("q", 14)]) rfl sc__law_machine.nd (w_range1 (by rfl) T.z_range (xa_cons x_int xa_nil)) (blkOk_by (own := [("q", 14)]) (N := N__law_machine) (sc := defScope s__law_machine) (by decide +kernel)) (fun _ _ _ _ _ _ => (gnW 14 sc__law_machine.nd)) (fun _ _ _ _ _ _ => (ts_one (PW.pt (t_or (t_cmp (o_eq hr.units) (x_call (ts := [some 0, none]) G__law_take (hr.mono (by decide)) (by rfl) T.m__law_take T.k__law_take T.b__law_take (xcio 0 (xc_plain x_int xc_nil))) x_int) (t_or1 (PW.pt (t_and (t_cmp (o_eq hr.units) (xf 14) (xf 7)) (t_and1 (t_cmp o_gt (x_call (ts := [some 0, none]) G__law_take (hr.mono (by decide)) (by rfl) T.m__law_take T.k__law_take T.b__law_take (xcio 0 (xc_plain x_int xc_nil))) x_int))))))))) (fun _ _ _ _ _ _ => (xf 14)) (hv := nios rfl))
      (ss_cons (s_if (t_cmp (o_eq hr.units) (x_call (ts := [some 0, none]) G__law_take (hr.mono (by decide)) (by rfl) T.m__law_take T.k__law_take T.b__law_take (xcio 0 (xc_plain x_int xc_nil))) x_int) (ss_cons (s_asg (x_lst (pe_lst xa_nil)) (gn 12 sc__law_machine.nd))
      ss_nil) ss_nil)
      (ss_cons (sret (x_tup (FrzT.pe_tupF (xa_cons x_str (xa_cons (x_callTy c_tuple (by rfl) T.z_tuple (by decide +kernel) (xa_cons (xf 3) xa_nil)) (xa_cons (xf 5) (xa_cons (x_callTy c_tuple (by rfl) T.z_tuple (by decide +kernel) (xa_cons (x_new (x_lc (own := [("key", 11)]) rfl sc__law_machine.nd (w_seq (x_callB (c_sortedT rfl) (by rfl) T.z_sorted (by decide +kernel) (xa_cons (xv 6) xa_nil))) (blkOk_by (own := [("key", 11)]) (N := N__law_machine) (sc := defScope s__law_machine) (by decide +kernel)) (fun _ _ _ _ _ _ => (gnW 11 sc__law_machine.nd)) (fun _ _ _ _ _ _ => ts_nil) (fun _ _ _ _ _ _ => (x_bin o_add (xf 11) (x_tup (FrzT.pe_tupF (xa_cons (x_ix (o_ixT (hu_of hr)) (xv 6) (xf 11) (fun _ _ => rfl)) xa_nil))))) (hv := nios rfl))) xa_nil)) (xa_cons (x_callTy c_tuple (by rfl) T.z_tuple (by decide +kernel) (xa_cons (xf 12) xa_nil)) xa_nil))))))))
      ss_nil)))))))))))
/-! ### _law_saying -/
def m__law_saying : MS :=
  (mSeq (mIfS (mB (mBin gEq (mFrz 1) (mC (.str "machine")))) (mSeq (mRet (mCall f__law_machine [some 0, none, none] (mConsIo 0 (mCons (mFrz 2) (mCons (mFrz 3) mNil)))))
  mNext) mNext)
  (mSeq (mIfS (mB (mBin gEq (mFrz 1) (mC (.str "ahead")))) (mSeq (mAsg (mBin gAdd (mC (.int 1)) (mCall f__law_take [some 0, none] (mConsIo 0 (mCons (mApp gMin2 (mCons (mC (.int 6)) (mCons (mBin gDiv (mApp gLen (mCons (mFrz 2) mNil)) (mC (.int 2))) mNil))) mNil)))) (gSet 4))
  (mSeq (mAsg (mLc (mItems (mCall f__law_shuffled [some 0, none] (mConsIo 0 (mCons (mFrz 2) mNil)))) (gSet 13) mYes (mBin gIx (mFrz 13) (mC (.int 0))) [13]) (gSet 5))
  (mSeq (mPar 6 7 (mCons (mSl (mFrz 5) mNoP (mP (mFrz 4))) (mCons (mSl (mFrz 5) (mP (mFrz 4)) mNoP) mNil)))
  (mSeq (mAsg (mApp gLstD mNil) (gOwn 8))
  (mSeq (mFor (mItems (mFrz 6)) (gSet 9) (mSeq (mAsg (mLc (mItems (mFrz 7)) (gSet 14) (mAndT (mB (mBin gNotIn (mFrz 14) (mVar 8))) (mAndT (mB (mBin gEq (mBin gIx (mFrz 3) (mFrz 14)) (mBin gIx (mFrz 3) (mFrz 9)))) (mB (mBin gGt (mCall f__law_take [some 0, none] (mConsIo 0 (mCons (mC (.int 4)) mNil))) (mC (.int 0)))))) (mFrz 14) [14]) (gSet 10))
  (mSeq (mDrop (mMut 8 gApp (mIf (mB (mBin gNe (mFrz 10) (mApp gLstD mNil))) (mBin gIx (mFrz 10) (mC (.int 0))) (mBin gIx (mLc (mItems (mFrz 7)) (gSet 14) (mB (mBin gNotIn (mFrz 14) (mVar 8))) (mFrz 14) [14]) (mC (.int 0))))))
  mNext)))
  (mSeq (mRet (mApp gTupD (mCons (mFrz 1) (mCons (mApp gTupOf (mCons (mFrz 6) mNil)) (mCons (mApp gTupOf (mCons (mVar 8) mNil)) mNil)))))
  mNext)))))) mNext)
  (mSeq (mAsg (mLc (mItems (mCall f__law_shuffled [some 0, none] (mConsIo 0 (mCons (mFrz 2) mNil)))) (gSet 13) (mB (mBin gLe (mApp gLen (mCons (mBin gIx (mFrz 13) (mC (.int 1))) mNil)) (mC (.int 6)))) (mFrz 13) [13]) (gSet 11))
  (mSeq (mAsg (mLc (mItems (mSl (mFrz 11) (mP (mC (.int 2))) mNoP)) (gSet 13) (mB (mBin gEq (mBin gIx (mFrz 13) (mC (.int 0))) (mBin gIx (mBin gIx (mFrz 2) (mC (.int 0))) (mC (.int 0))))) (mFrz 13) [13]) (gSet 12))
  (mSeq (mRet (mApp gTupD (mCons (mFrz 1) (mCons (mBin gIx (mBin gIx (mFrz 11) (mC (.int 0))) (mC (.int 0))) (mCons (mBin gIx (mBin gIx (mFrz 11) (mC (.int 1))) (mC (.int 0))) (mCons (mBin gIx (mBin gIx (mBin gAdd (mFrz 12) (mSl (mFrz 11) (mP (mC (.int 2))) mNoP)) (mC (.int 0))) (mC (.int 0))) mNil))))))
  mNext)))))
def f__law_saying : List D → Option (D × List D) := runD N__law_saying.length [0] m__law_saying
theorem ok__law_saying {P : Program} {w : World} {K : PySem.W.Frag} {mg : Str → Option Value} {base : Heap} {a : Ad} {d : Fd} (T : Txt w K mg base a d) : FnOk P w K mg base CX0 5 a.a__law_saying d.d__law_saying P__law_saying (spD K a.tabs [0] P__law_saying.length f__law_saying) := by
  have G__law_shuffled := ok__law_shuffled (P := P) (w := w) T
  have G__law_take := ok__law_take (P := P) (w := w) T
  have G__law_machine := ok__law_machine (P := P) (w := w) T
  refine okD (k := 4) T.F__law_saying sc__law_saying fun A outer s H E S A0 hr => ?_
  exact (ss_cons (s_if (t_cmp (o_eq hr.units) (xf 1) x_str) (ss_cons (sret (x_call (ts := [some 0, none, none]) G__law_machine (hr.mono (by decide)) (by rfl) T.m__law_machine T.k__law_machine T.b__law_machine (xcio 0 (xc_plain (xf 2) (xc_plain (xf 3) xc_nil)))))
      ss_nil) ss_nil)
      (ss_cons (s_if (t_cmp (o_eq hr.units) (xf 1) x_str) (ss_cons (s_asg (x_bin o_add x_int (x_call (ts := [some 0, none]) G__law_take (hr.mono (by decide)) (by rfl) T.m__law_take T.k__law_take T.b__law_take (xcio 0 (xc_plain (x_callB (c_min2 rfl) (by rfl) T.z_min (by decide +kernel) (xa_cons x_int (xa_cons (x_bin o_div (x_callB c_len (by rfl) T.z_len (by decide +kernel) (xa_cons (xf 2) xa_nil)) x_int) xa_nil))) xc_nil)))) (gn 4 sc__law_saying.nd))
      (ss_cons (sset_lc 5 (own := [("pair", 13)]) rfl sc__law_saying.nd (w_seq (x_call (ts := [some 0, none]) G__law_shuffled (hr.mono (by decide)) (by rfl) T.m__law_shuffled T.k__law_shuffled T.b__law_shuffled (xcio 0 (xc_plain (xf 2) xc_nil)))) (blkOk_by (own := [("pair", 13)]) (N := N__law_saying) (sc := defScope s__law_saying) (by decide +kernel)) (fun _ _ _ _ _ _ => (gnW 13 sc__law_saying.nd)) (fun _ _ _ _ _ _ => ts_nil) (fun _ _ _ _ _ _ => (x_ix (o_ix (hu_of hr)) (xf 13) x_int (fun _ _ => rfl))) (hv := nios rfl))
      (ss_cons (spar 6 7 sc__law_saying.nd (xa_cons (x_slice (xf 5) xo_none (xo_some (xf 4))) (xa_cons (x_slice (xf 5) (xo_some (xf 4)) xo_none) xa_nil)))
      (ss_cons (sown 8 sc__law_saying.nd (x_lstN (pe_lst xa_nil)))
      (ss_cons (s_for PassesOwn.never rfl (w_seq (xf 6)) (fun _ => (gn 9 sc__law_saying.nd)) (fun _ => (ss_cons (sset_lc 10 (own := [("y", 14)]) rfl sc__law_saying.nd (w_seq (xf 7)) (blkOk_by (own := [("y", 14)]) (N := N__law_saying) (sc := defScope s__law_saying) (by decide +kernel)) (fun _ _ _ _ _ _ => (gnW 14 sc__law_saying.nd)) (fun _ _ _ _ _ _ => (ts_one (PW.pt (t_and (t_cmp (o_notIn (hu65 hr)) (xf 14) (xv 8)) (t_and (t_cmp (o_eq hr.units) (x_ix (o_ix (hu_of hr)) (xf 3) (xf 14) (fun _ _ => rfl)) (x_ix (o_ix (hu_of hr)) (xf 3) (xf 9) (fun _ _ => rfl))) (t_and1 (t_cmp o_gt (x_call (ts := [some 0, none]) G__law_take (hr.mono (by decide)) (by rfl) T.m__law_take T.k__law_take T.b__law_take (xcio 0 (xc_plain x_int xc_nil))) x_int))))))) (fun _ _ _ _ _ _ => (xf 14)) (hv := nios rfl))
      (ss_cons (s_expr (x_append (i := 8) rfl (by first | exact Or.inl rfl | exact Or.inr (Or.inl rfl) | exact Or.inr (Or.inr rfl)) (x_if (t_cmp (o_ne hr.units) (xf 10) (x_lst (pe_lst xa_nil))) (x_ix (o_ix (hu_of hr)) (xf 10) x_int (fun _ _ => rfl)) (x_ix (o_ix (hu_of hr)) (x_new (x_lc (own := [("y", 14)]) rfl sc__law_saying.nd (w_seq (xf 7)) (blkOk_by (own := [("y", 14)]) (N := N__law_saying) (sc := defScope s__law_saying) (by decide +kernel)) (fun _ _ _ _ _ _ => (gnW 14 sc__law_saying.nd)) (fun _ _ _ _ _ _ => (ts_one (t_cmp (o_notIn (hu65 hr)) (xf 14) (xv 8)))) (fun _ _ _ _ _ _ => (xf 14)) (hv := nios rfl))) x_int (fun _ _ => rfl)))))
      ss_nil))))
      (ss_cons (sret (x_tup (FrzT.pe_tupF (xa_cons (xf 1) (xa_cons (x_callTy c_tuple (by rfl) T.z_tuple (by decide +kernel) (xa_cons (xf 6) xa_nil)) (xa_cons (x_callTy c_tuple (by rfl) T.z_tuple (by decide +kernel) (xa_cons (xv 8) xa_nil)) xa_nil))))))
      ss_nil)))))) ss_nil)
      (ss_cons (sset_lc 11 (own := [("pair", 13)]) rfl sc__law_saying.nd (w_seq (x_call (ts := [some 0, none]) G__law_shuffled (hr.mono (by decide)) (by rfl) T.m__law_shuffled T.k__law_shuffled T.b__law_shuffled (xcio 0 (xc_plain (xf 2) xc_nil)))) (blkOk_by (own := [("pair", 13)]) (N := N__law_saying) (sc := defScope s__law_saying) (by decide +kernel)) (fun _ _ _ _ _ _ => (gnW 13 sc__law_saying.nd)) (fun _ _ _ _ _ _ => (ts_one (t_cmp (o_le (hr.units0)) (x_callB c_len (by rfl) T.z_len (by decide +kernel) (xa_cons (x_ix (o_ix (hu_of hr)) (xf 13) x_int (fun _ _ => rfl)) xa_nil)) x_int))) (fun _ _ _ _ _ _ => (xf 13)) (hv := nios rfl))
      (ss_cons (sset_lc 12 (own := [("pair", 13)]) rfl sc__law_saying.nd (w_seq (x_slice (xf 11) (xo_some x_int) xo_none)) (blkOk_by (own := [("pair", 13)]) (N := N__law_saying) (sc := defScope s__law_saying) (by decide +kernel)) (fun _ _ _ _ _ _ => (gnW 13 sc__law_saying.nd)) (fun _ _ _ _ _ _ => (ts_one (t_cmp (o_eq hr.units) (x_ix (o_ix (hu_of hr)) (xf 13) x_int (fun _ _ => rfl)) (x_ix (o_ix (hu_of hr)) (x_ix (o_ix (hu_of hr)) (xf 2) x_int (fun _ _ => rfl)) x_int (fun _ _ => rfl))))) (fun _ _ _ _ _ _ => (xf 13)) (hv := nios rfl))
      (ss_cons (sret (x_tup (FrzT.pe_tupF (xa_cons (xf 1) (xa_cons (x_ix (o_ix (hu_of hr)) (x_ix (o_ix (hu_of hr)) (xf 11) x_int (fun _ _ => rfl)) x_int (fun _ _ => rfl)) (xa_cons (x_ix (o_ix (hu_of hr)) (x_ix (o_ix (hu_of hr)) (xf 11) x_int (fun _ _ => rfl)) x_int (fun _ _ => rfl)) (xa_cons (x_ix (o_ix (hu_of hr)) (x_ix (o_ix (hu_of hr)) (x_bin o_add (xf 12) (x_slice (xf 11) (xo_some x_int) xo_none)) x_int (fun _ _ => rfl)) x_int (fun _ _ => rfl)) xa_nil)))))))
      ss_nil)))))
/-! ### _law_times -/
def m__law_times : MS :=
  (mSeq (mAsg (mC (.dict [])) (gOwn 3))
  (mSeq (mFor (mRange gRange1 (mCons (mC (.int 12)) mNil)) (gSet 4) (mSeq (mAsg (mBin gMul (mCall f__law_pick [some 0, none] (mConsIo 0 (mCons (mBin gIx (mCall f__law_pick [some 0, none] (mConsIo 0 (mCons (mFrz 1) mNil))) (mC (.int 1))) mNil))) (mCall f__law_pick [some 0, none] (mConsIo 0 (mCons (mBin gIx (mCall f__law_pick [some 0, none] (mConsIo 0 (mCons (mFrz 1) mNil))) (mC (.int 1))) mNil)))) (gSet 5))
  (mSeq (mPut 3 (mApp gMax2 (mCons (mUn gNeg (mC (.int 200))) (mCons (mApp gMin2 (mCons (mC (.int 200)) (mCons (mBin gAdd (mFrz 5) (mApp gInt (mCons (mBin gEq (mCall f__law_take [some 0, none] (mConsIo 0 (mCons (mC (.int 9)) mNil))) (mC (.int 0))) mNil))) mNil))) mNil))) (mC (.bool true)))
  mNext)))
  (mSeq (mRet (mApp gTupOf (mCons (mApp gSorted (mCons (mSl (mCall f__law_shuffled [some 0, none] (mConsIo 0 (mCons (mApp gSorted (mCons (mVar 3) mNil)) mNil))) mNoP (mP (mFrz 2))) mNil)) mNil)))
  mNext)))
def f__law_times : List D → Option (D × List D) := runD N__law_times.length [0] m__law_times
theorem ok__law_times {P : Program} {w : World} {K : PySem.W.Frag} {mg : Str → Option Value} {base : Heap} {a : Ad} {d : Fd} (T : Txt w K mg base a d) : FnOk P w K mg base CX0 4 a.a__law_times d.d__law_times P__law_times (spD K a.tabs [0] P__law_times.length f__law_times) := by
  have G__law_shuffled := ok__law_shuffled (P := P) (w := w) T
  have G__law_take := ok__law_take (P := P) (w := w) T
  have G__law_pick := ok__law_pick (P := P) (w := w) T
  refine okD (k := 3) T.F__law_times sc__law_times fun A outer s H E S A0 hr => ?_
  exact (ss_cons (sown 3 sc__law_times.nd x_dicN)
      (ss_cons (s_for PassesOwn.never rfl (w_range1 (by rfl) T.z_range (xa_cons x_int xa_nil)) (fun _ => (gn 4 sc__law_times.nd)) (fun _ => (ss_cons (s_asg (x_bin o_mul (x_call (ts := [some 0, none]) G__law_pick (hr.mono (by decide)) (by rfl) T.m__law_pick T.k__law_pick T.b__law_pick (xcio 0 (xc_plain (x_ix (o_ix (hu_of hr)) (x_call (ts := [some 0, none]) G__law_pick (hr.mono (by decide)) (by rfl) T.m__law_pick T.k__law_pick T.b__law_pick (xcio 0 (xc_plain (xf 1) xc_nil))) x_int (fun _ _ => rfl)) xc_nil))) (x_call (ts := [some 0, none]) G__law_pick (hr.mono (by decide)) (by rfl) T.m__law_pick T.k__law_pick T.b__law_pick (xcio 0 (xc_plain (x_ix (o_ix (hu_of hr)) (x_call (ts := [some 0, none]) G__law_pick (hr.mono (by decide)) (by rfl) T.m__law_pick T.k__law_pick T.b__law_pick (xcio 0 (xc_plain (xf 1) xc_nil))) x_int (fun _ _ => rfl)) xc_nil)))) (gn 5 sc__law_times.nd))
      (ss_cons (sput 3 (hu_of hr) (x_callB (c_max2 rfl) (by rfl) T.z_max (by decide +kernel) (xa_cons (x_neg x_int) (xa_cons (x_callB (c_min2 rfl) (by rfl) T.z_min (by decide +kernel) (xa_cons x_int (xa_cons (x_bin o_add (xf 5) (x_callTy c_int (by rfl) T.z_int (by decide +kernel) (xa_cons (x_cmp (o_eq hr.units) (x_call (ts := [some 0, none]) G__law_take (hr.mono (by decide)) (by rfl) T.m__law_take T.k__law_take T.b__law_take (xcio 0 (xc_plain x_int xc_nil))) x_int) xa_nil))) xa_nil))) xa_nil))) x_bl)
      ss_nil))))
      (ss_cons (sret (x_callTy c_tuple (by rfl) T.z_tuple (by decide +kernel) (xa_cons (x_callB (c_sorted rfl) (by rfl) T.z_sorted (by decide +kernel) (xa_cons (x_slice (x_call (ts := [some 0, none]) G__law_shuffled (hr.mono (by decide)) (by rfl) T.m__law_shuffled T.k__law_shuffled T.b__law_shuffled (xcio 0 (xc_plain (x_callB (c_sorted rfl) (by rfl) T.z_sorted (by decide +kernel) (xa_cons (xv 3) xa_nil)) xc_nil))) xo_none (xo_some (xf 2))) xa_nil)) xa_nil)))
      ss_nil)))
/-! ### _law_by_turns -/
def m__law_by_turns : MS :=
  (mSeq (mAsg (mBin gAdd (mBin gAdd (mApp gLstD (mCons (mFrz 6) mNil)) (mSl (mFrz 5) mNoP (mP (mC (.int 2))))) (mApp gLstD (mCons (mCall f__law_near [some 0, none, none] (mConsIo 0 (mCons (mFrz 1) (mCons (mFrz 6) mNil)))) mNil))) (gSet 7))
  (mSeq (mAsg (mLc (mRange gRange1 (mCons (mApp gLen (mCons (mFrz 2) mNil)) mNil)) (gSet 9) mYes (mApp gTupD (mCons (mBin gIx (mBin gIx (mFrz 2) (mFrz 9)) (mC (.int 0))) (mCons (mBin gIx (mBin gIx (mFrz 2) (mBin gSub (mFrz 9) (mC (.int 1)))) (mC (.int 1))) mNil))) [9]) (gSet 8))
  (mSeq (mIfS (mOrT (mNotT (mB (mCall f__law_are_held [some 0, none, none, none, none] (mConsIo 0 (mCons (mFrz 1) (mCons (mFrz 3) (mCons (mFrz 4) (mCons (mFrz 5) mNil)))))))) (mNotT (mB (mCall f__law_are_held [some 0, none, none, none, none] (mConsIo 0 (mCons (mFrz 1) (mCons (mSl (mFrz 8) (mP (mC (.int 1))) mNoP) (mCons (mSl (mFrz 8) mNoP (mP (mC (.int 1)))) (mCons (mFrz 7) mNil))))))))) (mSeq (mRet (mC (.bool false)))
  mNext) mNext)
  (mSeq (mRet (mCall f__law_are_held [some 0, none, none, none, none] (mConsIo 0 (mCons (mFrz 1) (mCons (mFrz 3) (mCons (mFrz 4) (mCons (mFrz 7) mNil)))))))
  mNext))))
def f__law_by_turns : List D → Option (D × List D) := runD N__law_by_turns.length [0] m__law_by_turns
theorem ok__law_by_turns {P : Program} {w : World} {K : PySem.W.Frag} {mg : Str → Option Value} {base : Heap} {a : Ad} {d : Fd} (T : Txt w K mg base a d) : FnOk P w K mg base CX0 9 a.a__law_by_turns d.d__law_by_turns P__law_by_turns (spD K a.tabs [0] P__law_by_turns.length f__law_by_turns) := by
  have G__law_are_held := ok__law_are_held (P := P) (w := w) T
  have G__law_near := ok__law_near (P := P) (w := w) T
  refine okD (k := 8) T.F__law_by_turns sc__law_by_turns fun A outer s H E S A0 hr => ?_
  exact (ss_cons (s_asg (x_bin o_add (x_bin o_add (x_lst (pe_lst (xa_cons (xf 6) xa_nil))) (x_slice (xf 5) xo_none (xo_some x_int))) (x_lst (pe_lst (xa_cons (x_call (ts := [some 0, none, none]) G__law_near (hr.mono (by decide)) (by rfl) T.m__law_near T.k__law_near T.b__law_near (xcio 0 (xc_plain (xf 1) (xc_plain (xf 6) xc_nil)))) xa_nil)))) (gn 7 sc__law_by_turns.nd))
      (ss_cons (sset_lc 8 (own := [("k", 9)]) rfl sc__law_by_turns.nd (w_range1 (by rfl) T.z_range (xa_cons (x_callB c_len (by rfl) T.z_len (by decide +kernel) (xa_cons (xf 2) xa_nil)) xa_nil)) (blkOk_by (own := [("k", 9)]) (N := N__law_by_turns) (sc := defScope s__law_by_turns) (by decide +kernel)) (fun _ _ _ _ _ _ => (gnW 9 sc__law_by_turns.nd)) (fun _ _ _ _ _ _ => ts_nil) (fun _ _ _ _ _ _ => (x_tup (FrzT.pe_tupF (xa_cons (x_ix (o_ix (hu_of hr)) (x_ix (o_ix (hu_of hr)) (xf 2) (xf 9) (fun _ _ => rfl)) x_int (fun _ _ => rfl)) (xa_cons (x_ix (o_ix (hu_of hr)) (x_ix (o_ix (hu_of hr)) (xf 2) (x_bin o_sub (xf 9) x_int) (fun _ _ => rfl)) x_int (fun _ _ => rfl)) xa_nil))))) (hv := nios rfl))
      (ss_cons (s_if (PW.pt (t_or (t_not (t_val (x_call (ts := [some 0, none, none, none, none]) G__law_are_held (hr.mono (by decide)) (by rfl) T.m__law_are_held T.k__law_are_held T.b__law_are_held (xcio 0 (xc_plain (xf 1) (xc_plain (xf 3) (xc_plain (xf 4) (xc_plain (xf 5) xc_nil)))))))) (t_or1 (t_not (t_val (x_call (ts := [some 0, none, none, none, none]) G__law_are_held (hr.mono (by decide)) (by rfl) T.m__law_are_held T.k__law_are_held T.b__law_are_held (xcio 0 (xc_plain (xf 1) (xc_plain (x_slice (xf 8) (xo_some x_int) xo_none) (xc_plain (x_slice (xf 8) xo_none (xo_some x_int)) (xc_plain (xf 7) xc_nil))))))))))) (ss_cons (sret x_bl)
      ss_nil) ss_nil)
      (ss_cons (sret (x_call (ts := [some 0, none, none, none, none]) G__law_are_held (hr.mono (by decide)) (by rfl) T.m__law_are_held T.k__law_are_held T.b__law_are_held (xcio 0 (xc_plain (xf 1) (xc_plain (xf 3) (xc_plain (xf 4) (xc_plain (xf 7) xc_nil)))))))
      ss_nil))))
/-! ### law -/
def m_law : MS :=
  (mSeq (mAsg (mCall f__law_start [none] (mCons (mFrz 0) mNil)) (gOwn 1))
  (mSeq (mAsg (mBin gEq (mCall f__law_take [some 1, none] (mConsIo 1 (mCons (mC (.int 8)) mNil))) (mC (.int 0))) (gSet 2))
  (mSeq (mAsg (mBin gAdd (mApp gLstD (mCons (mBin gAdd (mC (.int 1)) (mCall f__law_take [some 1, none] (mConsIo 1 (mCons (mC (.int 4)) mNil)))) (mCons (mBin gAdd (mC (.int 1)) (mCall f__law_take [some 1, none] (mConsIo 1 (mCons (mC (.int 3)) mNil)))) (mCons (mBin gAdd (mC (.int 1)) (mCall f__law_take [some 1, none] (mConsIo 1 (mCons (mC (.int 3)) mNil)))) mNil)))) (mLc (mRange gRange1 (mCons (mCall f__law_take [some 1, none] (mConsIo 1 (mCons (mC (.int 2)) mNil))) mNil)) (gSet 7) mYes (mBin gAdd (mC (.int 1)) (mCall f__law_take [some 1, none] (mConsIo 1 (mCons (mC (.int 2)) mNil)))) [7])) (gSet 3))
  (mSeq (mIfS (mB (mFrz 2)) (mSeq (mAsg (mBin gAdd (mLc (mRange gRange1 (mCons (mC (.int 4)) mNil)) (gSet 7) mYes (mBin gAdd (mC (.int 1)) (mCall f__law_take [some 1, none] (mConsIo 1 (mCons (mC (.int 6)) mNil)))) [7]) (mLc (mRange gRange1 (mCons (mBin gAdd (mC (.int 9)) (mCall f__law_take [some 1, none] (mConsIo 1 (mCons (mC (.int 12)) mNil)))) mNil)) (gSet 7) mYes (mCall f__law_pick [some 1, none] (mConsIo 1 (mCons (mApp gLstD (mCons (mC (.int 1)) (mCons (mC (.int 2)) (mCons (mC (.int 5)) (mCons (mC (.int 12)) (mCons (mC (.int 12)) mNil)))))) mNil))) [7])) (gSet 3))
  mNext) mNext)
  (mSeq (mAsg (mCall f__law_names [some 1, none] (mConsIo 1 (mCons (mBin gAdd (mApp gLen (mCons (mFrz 3) mNil)) (mC (.int 5))) mNil))) (gSet 4))
  (mSeq (mAsg (mCall f__law_pick [some 1, none] (mConsIo 1 (mCons (mApp gLstD (mCons (mC (.int 0)) (mCons (mUn gNeg (mC (.int 1))) (mCons (mUn gNeg (mC (.int 2))) (mCons (mUn gNeg (mC (.int 5))) (mCons (mC (.int 9)) (mCons (mUn gNeg (mC (.int 14))) (mCons (mBin gSub (mCall f__law_take [some 1, none] (mConsIo 1 (mCons (mC (.int 389)) mNil))) (mC (.int 200))) mNil)))))))) mNil))) (gSet 5))
  (mSeq (mAsg (mApp gLstD mNil) (gOwn 6))
  (mSeq (mFor (mRange gRange2 (mCons (mC (.int 1)) (mCons (mApp gLen (mCons (mFrz 3) mNil)) mNil))) (gSet 7) (mSeq (mAsg (mApp gTupOf (mCons (mLc (mItems (mApp gSorted (mCons (mSl (mCall f__law_shuffled [some 1, none] (mConsIo 1 (mCons (mUn gListRange (mC (.int 12))) mNil))) mNoP (mP (mBin gIx (mFrz 3) (mFrz 7)))) mNil))) (gSet 16) mYes (mBin gAdd (mFrz 5) (mFrz 16)) [16]) mNil)) (gSet 8))
  (mSeq (mDrop (mMut 6 gApp (mApp gTupD (mCons (mBin gIx (mFrz 4) (mFrz 7)) (mCons (mIf (mB (mBin gEq (mCall f__law_take [some 1, none] (mConsIo 1 (mCons (mC (.int 2)) mNil))) (mC (.int 0)))) (mFrz 8) (mApp gTupOf (mCons (mLc (mRange gRange1 (mCons (mBin gIx (mFrz 3) (mFrz 7)) mNil)) (gSet 16) mYes (mBin gAdd (mFrz 5) (mFrz 16)) [16]) mNil))) mNil)))))
  mNext)))
  (mSeq (mAsg (mBin gAddN (mApp gLstD (mCons (mApp gTupD (mCons (mBin gIx (mFrz 4) (mC (.int 0))) (mCons (mCall f__law_times [some 1, none, none] (mConsIo 1 (mCons (mFrz 6) (mCons (mBin gIx (mFrz 3) (mC (.int 0))) mNil)))) mNil))) mNil)) (mVar 6)) (gOwn 6))
  (mSeq (mAsg (mCall f__law_shuffled [some 1, none] (mConsIo 1 (mCons (mFrz 6) mNil))) (gSet 9))
  (mSeq (mAsg (mApp gTupOf (mCons (mLc (mItems (mFrz 9)) (gSet 17) mYes (mCall f__law_pick [some 1, none] (mConsIo 1 (mCons (mBin gIx (mFrz 17) (mC (.int 1))) mNil))) [17]) mNil)) (gSet 10))
  (mSeq (mAsg (mCall f__law_world [none, none] (mCons (mFrz 9) (mCons (mFrz 10) mNil))) (gSet 11))
  (mSeq (mAsg (mBin gAdd (mCall f__law_shuffled [some 1, none] (mConsIo 1 (mCons (mApp gLstD (mCons (mC (.str "product")) (mCons (mC (.str "ahead")) (mCons (mC (.str "machine")) (mCons (mC (.str "machine")) mNil))))) mNil))) (mApp gLstD (mCons (mCall f__law_pick [some 1, none] (mConsIo 1 (mCons (mApp gLstD (mCons (mC (.str "product")) (mCons (mC (.str "ahead")) (mCons (mC (.str "machine")) mNil)))) mNil))) mNil))) (gSet 12))
  (mSeq (mAsg (mLc (mRange gRange1 (mCons (mC (.int 5)) mNil)) (gSet 7) mYes (mApp gTupD (mCons (mBin gIx (mFrz 4) (mBin gAdd (mApp gLen (mCons (mFrz 3) mNil)) (mFrz 7))) (mCons (mCall f__law_saying [some 1, none, none, none] (mConsIo 1 (mCons (mBin gIx (mFrz 12) (mFrz 7)) (mCons (mFrz 6) (mCons (mFrz 11) mNil))))) mNil))) [7]) (gSet 13))
  (mSeq (mAsg (mCall f__law_parted [some 1, none, none] (mConsIo 1 (mCons (mFrz 13) (mCons (mFrz 11) mNil)))) (gSet 14))
  (mSeq (mAsg (mIf (mNotT (mB (mFrz 2))) (mCall f__law_fillings [none] (mCons (mFrz 9) mNil)) (mBin gAdd (mApp gLstD (mCons (mFrz 10) mNil)) (mLc (mRange gRange1 (mCons (mC (.int 30)) mNil)) (gSet 7) mYes (mCall f__law_near [some 1, none, none] (mConsIo 1 (mCons (mFrz 9) (mCons (mFrz 10) mNil)))) [7]))) (gSet 15))
  (mSeq (mRet (mCall f__law_by_turns [some 1, none, none, none, none, none, none] (mConsIo 1 (mCons (mFrz 9) (mCons (mFrz 13) (mCons (mBin gIx (mFrz 14) (mC (.int 0))) (mCons (mBin gIx (mFrz 14) (mC (.int 1))) (mCons (mFrz 15) (mCons (mFrz 10) mNil)))))))))
  mNext)))))))))))))))))
def f_law : List D → Option (D × List D) := runD N_law.length [] m_law
theorem ok_law {P : Program} {w : World} {K : PySem.W.Frag} {mg : Str → Option Value} {base : Heap} {a : Ad} {d : Fd} (T : Txt w K mg base a d) : FnOk P w K mg base CX0 10 a.a_law d.d_law P_law (spD K a.tabs [] P_law.length f_law) := by
  have G__law_by_turns := ok__law_by_turns (P := P) (w := w) T
  have G__law_fillings := ok__law_fillings (P := P) (w := w) T
  have G__law_near := ok__law_near (P := P) (w := w) T
  have G__law_parted := ok__law_parted (P := P) (w := w) T
  have G__law_saying := ok__law_saying (P := P) (w := w) T
  have G__law_shuffled := ok__law_shuffled (P := P) (w := w) T
  have G__law_pick := ok__law_pick (P := P) (w := w) T
  have G__law_world := ok__law_world (P := P) (w := w) T
  have G__law_times := ok__law_times (P := P) (w := w) T
  have G__law_take := ok__law_take (P := P) (w := w) T
  have G__law_names := ok__law_names (P := P) (w := w) T
  have G__law_start := ok__law_start (P := P) (w := w) T
  refine okD (k := 9) T.F_law sc_law fun A outer s H E S A0 hr => ?_
  exact (ss_cons (sown 1 sc_law.nd (x_callN (ts := [none]) G__law_start (hr.mono (by decide)) (by rfl) T.m__law_start T.k__law_start T.b__law_start (xc_plain (xf 0) xc_nil)))
      (ss_cons (s_asg (x_cmp (o_eq hr.units) (x_call (ts := [some 1, none]) G__law_take (hr.mono (by decide)) (by rfl) T.m__law_take T.k__law_take T.b__law_take (xcio 1 (xc_plain x_int xc_nil))) x_int) (gn 2 sc_law.nd))
      (ss_cons (s_asg (x_bin o_add (x_lst (pe_lst (xa_cons (x_bin o_add x_int (x_call (ts := [some 1, none]) G__law_take (hr.mono (by decide)) (by rfl) T.m__law_take T.k__law_take T.b__law_take (xcio 1 (xc_plain x_int xc_nil)))) (xa_cons (x_bin o_add x_int (x_call (ts := [some 1, none]) G__law_take (hr.mono (by decide)) (by rfl) T.m__law_take T.k__law_take T.b__law_take (xcio 1 (xc_plain x_int xc_nil)))) (xa_cons (x_bin o_add x_int (x_call (ts := [some 1, none]) G__law_take (hr.mono (by decide)) (by rfl) T.m__law_take T.k__law_take T.b__law_take (xcio 1 (xc_plain x_int xc_nil)))) xa_nil))))) (x_new (x_lc (own := [("k", 7)]) rfl sc_law.nd (w_range1 (by rfl) T.z_range (xa_cons (x_call (ts := [some 1, none]) G__law_take (hr.mono (by decide)) (by rfl) T.m__law_take T.k__law_take T.b__law_take (xcio 1 (xc_plain x_int xc_nil))) xa_nil)) (blkOk_by (own := [("k", 7)]) (N := N_law) (sc := defScope s_law) (by decide +kernel)) (fun _ _ _ _ _ _ => (gnW 7 sc_law.nd)) (fun _ _ _ _ _ _ => ts_nil) (fun _ _ _ _ _ _ => (x_bin o_add x_int (x_call (ts := [some 1, none]) G__law_take (hr.mono (by decide)) (by rfl) T.m__law_take T.k__law_take T.b__law_take (xcio 1 (xc_plain x_int xc_nil))))) (hv := nios rfl)))) (gn 3 sc_law.nd))
      (ss_cons (s_if (t_val (xf 2)) (ss_cons (s_asg (x_bin o_add (x_new (x_lc (own := [("k", 7)]) rfl sc_law.nd (w_range1 (by rfl) T.z_range (xa_cons x_int xa_nil)) (blkOk_by (own := [("k", 7)]) (N := N_law) (sc := defScope s_law) (by decide +kernel)) (fun _ _ _ _ _ _ => (gnW 7 sc_law.nd)) (fun _ _ _ _ _ _ => ts_nil) (fun _ _ _ _ _ _ => (x_bin o_add x_int (x_call (ts := [some 1, none]) G__law_take (hr.mono (by decide)) (by rfl) T.m__law_take T.k__law_take T.b__law_take (xcio 1 (xc_plain x_int xc_nil))))) (hv := nios rfl))) (x_new (x_lc (own := [("k", 7)]) rfl sc_law.nd (w_range1 (by rfl) T.z_range (xa_cons (x_bin o_add x_int (x_call (ts := [some 1, none]) G__law_take (hr.mono (by decide)) (by rfl) T.m__law_take T.k__law_take T.b__law_take (xcio 1 (xc_plain x_int xc_nil)))) xa_nil)) (blkOk_by (own := [("k", 7)]) (N := N_law) (sc := defScope s_law) (by decide +kernel)) (fun _ _ _ _ _ _ => (gnW 7 sc_law.nd)) (fun _ _ _ _ _ _ => ts_nil) (fun _ _ _ _ _ _ => (x_call (ts := [some 1, none]) G__law_pick (hr.mono (by decide)) (by rfl) T.m__law_pick T.k__law_pick T.b__law_pick (xcio 1 (xc_plain (x_lst (pe_lst (xa_cons x_int (xa_cons x_int (xa_cons x_int (xa_cons x_int (xa_cons x_int xa_nil))))))) xc_nil)))) (hv := nios rfl)))) (gn 3 sc_law.nd))
      ss_nil) ss_nil)
      (ss_cons (s_asg (x_call (ts := [some 1, none]) G__law_names (hr.mono (by decide)) (by rfl) T.m__law_names T.k__law_names T.b__law_names (xcio 1 (xc_plain (x_bin o_add (x_callB c_len (by rfl) T.z_len (by decide +kernel) (xa_cons (xf 3) xa_nil)) x_int) xc_nil))) (gn 4 sc_law.nd))
      (ss_cons (s_asg (x_call (ts := [some 1, none]) G__law_pick (hr.mono (by decide)) (by rfl) T.m__law_pick T.k__law_pick T.b__law_pick (xcio 1 (xc_plain (x_lst (pe_lst (xa_cons x_int (xa_cons (x_neg x_int) (xa_cons (x_neg x_int) (xa_cons (x_neg x_int) (xa_cons x_int (xa_cons (x_neg x_int) (xa_cons (x_bin o_sub (x_call (ts := [some 1, none]) G__law_take (hr.mono (by decide)) (by rfl) T.m__law_take T.k__law_take T.b__law_take (xcio 1 (xc_plain x_int xc_nil))) x_int) xa_nil))))))))) xc_nil))) (gn 5 sc_law.nd))
      (ss_cons (sown 6 sc_law.nd (x_lstN (pe_lst xa_nil)))
      (ss_cons (s_for PassesOwn.never rfl (w_range2 (by rfl) T.z_range (xa_cons x_int (xa_cons (x_callB c_len (by rfl) T.z_len (by decide +kernel) (xa_cons (xf 3) xa_nil)) xa_nil))) (fun _ => (gn 7 sc_law.nd)) (fun _ => (ss_cons (s_asg (x_callTy c_tuple (by rfl) T.z_tuple (by decide +kernel) (xa_cons (x_new (x_lc (own := [("v", 16)]) rfl sc_law.nd (w_seq (x_callB (c_sorted rfl) (by rfl) T.z_sorted (by decide +kernel) (xa_cons (x_slice (x_call (ts := [some 1, none]) G__law_shuffled (hr.mono (by decide)) (by rfl) T.m__law_shuffled T.k__law_shuffled T.b__law_shuffled (xcio 1 (xc_plain (x_new (x_listRange rfl (by rfl) T.z_list (by rfl) T.z_range x_int)) xc_nil))) xo_none (xo_some (x_ix (o_ix (hu_of hr)) (xf 3) (xf 7) (fun _ _ => rfl)))) xa_nil))) (blkOk_by (own := [("v", 16)]) (N := N_law) (sc := defScope s_law) (by decide +kernel)) (fun _ _ _ _ _ _ => (gnW 16 sc_law.nd)) (fun _ _ _ _ _ _ => ts_nil) (fun _ _ _ _ _ _ => (x_bin o_add (xf 5) (xf 16))) (hv := nios rfl))) xa_nil)) (gn 8 sc_law.nd))
      (ss_cons (s_expr (x_append (i := 6) rfl (by first | exact Or.inl rfl | exact Or.inr (Or.inl rfl) | exact Or.inr (Or.inr rfl)) (x_tup (FrzT.pe_tupF (xa_cons (x_ix (o_ix (hu_of hr)) (xf 4) (xf 7) (fun _ _ => rfl)) (xa_cons (x_if (t_cmp (o_eq hr.units) (x_call (ts := [some 1, none]) G__law_take (hr.mono (by decide)) (by rfl) T.m__law_take T.k__law_take T.b__law_take (xcio 1 (xc_plain x_int xc_nil))) x_int) (xf 8) (x_callTy c_tuple (by rfl) T.z_tuple (by decide +kernel) (xa_cons (x_new (x_lc (own := [("v", 16)]) rfl sc_law.nd (w_range1 (by rfl) T.z_range (xa_cons (x_ix (o_ix (hu_of hr)) (xf 3) (xf 7) (fun _ _ => rfl)) xa_nil)) (blkOk_by (own := [("v", 16)]) (N := N_law) (sc := defScope s_law) (by decide +kernel)) (fun _ _ _ _ _ _ => (gnW 16 sc_law.nd)) (fun _ _ _ _ _ _ => ts_nil) (fun _ _ _ _ _ _ => (x_bin o_add (xf 5) (xf 16))) (hv := nios rfl))) xa_nil))) xa_nil))))))
      ss_nil))))
      (ss_cons (sown 6 sc_law.nd (x_addN (x_lst (pe_lst (xa_cons (x_tup (FrzT.pe_tupF (xa_cons (x_ix (o_ix (hu_of hr)) (xf 4) x_int (fun _ _ => rfl)) (xa_cons (x_call (ts := [some 1, none, none]) G__law_times (hr.mono (by decide)) (by rfl) T.m__law_times T.k__law_times T.b__law_times (xcio 1 (xc_plain (xf 6) (xc_plain (x_ix (o_ix (hu_of hr)) (xf 3) x_int (fun _ _ => rfl)) xc_nil)))) xa_nil)))) xa_nil))) (xv 6)))
      (ss_cons (s_asg (x_call (ts := [some 1, none]) G__law_shuffled (hr.mono (by decide)) (by rfl) T.m__law_shuffled T.k__law_shuffled T.b__law_shuffled (xcio 1 (xc_plain (xf 6) xc_nil))) (gn 9 sc_law.nd))
      (ss_cons (s_asg (x_callTy c_tuple (by rfl) T.z_tuple (by decide +kernel) (xa_cons (x_new (x_lc (own := [("pair", 17)]) rfl sc_law.nd (w_seq (xf 9)) (blkOk_by (own := [("pair", 17)]) (N := N_law) (sc := defScope s_law) (by decide +kernel)) (fun _ _ _ _ _ _ => (gnW 17 sc_law.nd)) (fun _ _ _ _ _ _ => ts_nil) (fun _ _ _ _ _ _ => (x_call (ts := [some 1, none]) G__law_pick (hr.mono (by decide)) (by rfl) T.m__law_pick T.k__law_pick T.b__law_pick (xcio 1 (xc_plain (x_ix (o_ix (hu_of hr)) (xf 17) x_int (fun _ _ => rfl)) xc_nil)))) (hv := nios rfl))) xa_nil)) (gn 10 sc_law.nd))
      (ss_cons (s_asg (x_call (ts := [none, none]) G__law_world (hr.mono (by decide)) (by rfl) T.m__law_world T.k__law_world T.b__law_world (xc_plain (xf 9) (xc_plain (xf 10) xc_nil))) (gn 11 sc_law.nd))
      (ss_cons (s_asg (x_bin o_add (x_call (ts := [some 1, none]) G__law_shuffled (hr.mono (by decide)) (by rfl) T.m__law_shuffled T.k__law_shuffled T.b__law_shuffled (xcio 1 (xc_plain (x_lst (pe_lst (xa_cons x_str (xa_cons x_str (xa_cons x_str (xa_cons x_str xa_nil)))))) xc_nil))) (x_lst (pe_lst (xa_cons (x_call (ts := [some 1, none]) G__law_pick (hr.mono (by decide)) (by rfl) T.m__law_pick T.k__law_pick T.b__law_pick (xcio 1 (xc_plain (x_lst (pe_lst (xa_cons x_str (xa_cons x_str (xa_cons x_str xa_nil))))) xc_nil))) xa_nil)))) (gn 12 sc_law.nd))
      (ss_cons (sset_lc 13 (own := [("k", 7)]) rfl sc_law.nd (w_range1 (by rfl) T.z_range (xa_cons x_int xa_nil)) (blkOk_by (own := [("k", 7)]) (N := N_law) (sc := defScope s_law) (by decide +kernel)) (fun _ _ _ _ _ _ => (gnW 7 sc_law.nd)) (fun _ _ _ _ _ _ => ts_nil) (fun _ _ _ _ _ _ => (x_tup (FrzT.pe_tupF (xa_cons (x_ix (o_ix (hu_of hr)) (xf 4) (x_bin o_add (x_callB c_len (by rfl) T.z_len (by decide +kernel) (xa_cons (xf 3) xa_nil)) (xf 7)) (fun _ _ => rfl)) (xa_cons (x_call (ts := [some 1, none, none, none]) G__law_saying (hr.mono (by decide)) (by rfl) T.m__law_saying T.k__law_saying T.b__law_saying (xcio 1 (xc_plain (x_ix (o_ix (hu_of hr)) (xf 12) (xf 7) (fun _ _ => rfl)) (xc_plain (xf 6) (xc_plain (xf 11) xc_nil))))) xa_nil))))) (hv := nios rfl))
      (ss_cons (s_asg (x_call (ts := [some 1, none, none]) G__law_parted (hr.mono (by decide)) (by rfl) T.m__law_parted T.k__law_parted T.b__law_parted (xcio 1 (xc_plain (xf 13) (xc_plain (xf 11) xc_nil)))) (gn 14 sc_law.nd))
      (ss_cons (s_asg (x_if (t_not (t_val (xf 2))) (x_call (ts := [none]) G__law_fillings (hr.mono (by decide)) (by rfl) T.m__law_fillings T.k__law_fillings T.b__law_fillings (xc_plain (xf 9) xc_nil)) (x_bin o_add (x_lst (pe_lst (xa_cons (xf 10) xa_nil))) (x_new (x_lc (own := [("k", 7)]) rfl sc_law.nd (w_range1 (by rfl) T.z_range (xa_cons x_int xa_nil)) (blkOk_by (own := [("k", 7)]) (N := N_law) (sc := defScope s_law) (by decide +kernel)) (fun _ _ _ _ _ _ => (gnW 7 sc_law.nd)) (fun _ _ _ _ _ _ => ts_nil) (fun _ _ _ _ _ _ => (x_call (ts := [some 1, none, none]) G__law_near (hr.mono (by decide)) (by rfl) T.m__law_near T.k__law_near T.b__law_near (xcio 1 (xc_plain (xf 9) (xc_plain (xf 10) xc_nil))))) (hv := nios rfl))))) (gn 15 sc_law.nd))
      (ss_cons (sret (x_call (ts := [some 1, none, none, none, none, none, none]) G__law_by_turns (hr.mono (by decide)) (by rfl) T.m__law_by_turns T.k__law_by_turns T.b__law_by_turns (xcio 1 (xc_plain (xf 9) (xc_plain (xf 13) (xc_plain (x_ix (o_ix (hu_of hr)) (xf 14) x_int (fun _ _ => rfl)) (xc_plain (x_ix (o_ix (hu_of hr)) (xf 14) x_int (fun _ _ => rfl)) (xc_plain (xf 15) (xc_plain (xf 10) xc_nil)))))))))
      ss_nil)))))))))))))))))
end K05W

set_option Elab.async false
set_option linter.all false
set_option maxRecDepth 100000
set_option maxHeartbeats 4000000
namespace K05W
open PySem PySem.Spec PyProof.Rows L2 GxR GenX OwnK PD
/-! P1: the draws -/
local macro_rules | `(tactic| tb_rel) => `(tactic| simp -dsimp only [q_runD, q_runN, W_seq, q_asg, q_ifS, q_ret, q_drop, W_next, W_break, W_cont, q_for, q_put, q_aug, q_augL, q_mut, q_par, q_bin, q_un, q_app, q_nil, q_cons, q_consIo, q_call, q_callK, q_tab, q_if, q_andT, q_orT, q_notT, q_andV, q_orV, q_notV, q_mB, q_mP, q_noP, q_sl, q_items, q_range, q_chain, q_get2, q_lc, q_dc, q_an, q_su, q_mC, W_some, W_none, W_ite, q_some, q_none, q_ite, W_map, W_bind, bcs_true, bcs_false, bcs_dec, bcs_not, seqQ_nx, seqQ_rt, seqQ_bk, seqQ_ct, forQ_nx, forQ_rt, forQ_bk, forQ_ct, rQ_nx, rQ_rt, rQN_rt, boolQ_bool, intQ_int, strQ_str, dictQ_dict, ownQ_true, borQ_false, list2Q_eq, mFrz_eq, mVar, mOwn, mYes, gSet, gOwn, gTupT, gsCons, gsNil, putBack, wipeR, startR, ioR, backR_eq, backRl, slotD_some, slotD_none, gAdd_ii, gSub_ii, gAddI, gSubI, gLt, gLe, gGt, gGe, gEq_ii, gNe_ii, gInt, gLen_l, gLen_t, gLen_d, gAbs, gMax2, gMin2, keyD_i, keyD_s, gItems_l, gItems_t, gNeg, gListOf, gTupOf, gSl_l, gSl_t, gIs, gIsNot, isN, gMul_s0, gMul_s1, gIxL, gIx_l, gIx_t, gIx_di, gIx_ds, gPow_1018, atI_0, atI_1, atI_2, atI_3, atI_4, atI_5, atI_6, atI_7, gPutL_0, gPutL_1, gPutL_2, gPutL_3, gPutL_4, gPutL_5,
  List.getElem?_cons_zero, List.getElem?_cons_succ, List.set_cons_zero, List.set_cons_succ, List.length_cons, List.length_nil, List.cons_append, List.nil_append, List.replicate, List.map_cons, List.map_nil, Nat.reduceAdd, Nat.reduceSub, Nat.reduceLT, Nat.reduceLeDiff, Nat.zero_add, ↓reduceIte, Nat.lt_add_one, Nat.succ_eq_add_one, List.mem_cons, List.not_mem_nil, or_false, or_true, true_and, and_true, not_true_eq_false, not_false_eq_true, forall_const, decide_true, decide_false, decide_eq_true_eq, reduceCtorEq, ne_eq])
local macro_rules | `(tactic| allgen_close2_more) => `(tactic| first | omega | (simp only [List.length_append, List.length_cons, List.length_nil, List.length_map, List.length_range] at *; omega) | (simp only [len_app, len_one, len_empty] at *; omega))
local macro_rules | `(tactic| tb_start) => `(tactic| first
  | (with_reducible refine w_mul ?hh ?_; (case hh => first | omega | (left; omega) | (right; omega)))
  | (with_reducible refine w_mod ?hh ?_; (case hh => omega); intro _ _)
  | (with_reducible refine w_div ?hh ?hj ?_; (case hh => omega); (case hj => omega))
  | (with_reducible refine wr1 ?hh ?hj ?_; (case hh => allgen_close2_more); (case hj => allgen_close2_more))
  | (with_reducible refine W_atM ?hh ?hj ?_; (case hh => omega); (case hj => allgen_close2_more); intro _ _)
  | (with_reducible refine W_atL ?hh ?hj ?_; (case hh => omega); (case hj => allgen_close2_more); intro _ _)
  | (with_reducible refine w_putM ?hh ?hj ?_; (case hh => omega); (case hj => allgen_close2_more))
  | (with_reducible refine w_app ?hh ?_; (case hh => allgen_close2_more))
  | (with_reducible refine w_addS ?hh ?_; (case hh => allgen_close2_more))
  | (with_reducible refine w_slS ?hh ?_; (case hh => allgen_close2_more))
  | (with_reducible refine w_addL ?hh ?_; (case hh => allgen_close2_more))
  | (with_reducible refine w_addT ?hh ?_; (case hh => allgen_close2_more))
  | (with_reducible refine w_gLst ?hh ?_; (case hh => (simp; done)))
  | (with_reducible refine w_gTup ?hh ?_; (case hh => (simp; done)))
  | (with_reducible refine w_eq (a := ?aa) ?hh ?_; (case hh => with_reducible assumption))
  | (with_reducible refine w_eqS true ?hh ?_; (case hh => decide +kernel))
  | (with_reducible refine w_eqS false ?hh ?_; (case hh => decide +kernel))
  | (with_reducible refine w_lookT ?hh ?_; (case hh => decide +kernel))
  | (with_reducible refine w_lookF ?hh ?_; (case hh => decide +kernel))
  | (with_reducible refine w_lenSet ?hh ?_; (case hh => allgen_close2_more))
  | with_reducible refine w_tcount ?_
  | with_reducible refine w_sum ?_
  | with_reducible refine w_sorted ?_
  | allgen_close_more)
local macro_rules | `(tactic| top_reprB) => `(tactic| repeat' (first | tb_rel | tb_start | intro _ | (with_reducible refine And.intro ?_ ?_)))
theorem mixed_w (n k : Int) {Q : D → List D → Prop} (q : ∀ m, Q (.int m) [.int n, .int k]) : Wq (f__law_mixed [.int n, .int k]) Q := by
  unfold f__law_mixed m__law_mixed
  top_reprB
  exact q _
local macro_rules | `(tactic| allgen_close_more) => `(tactic| (with_reducible refine mixed_w _ _ ?_; intro _))
/-- the state of the draws: a list whose second place is no negative number -/
def Sd (d : D) : Prop := ∃ (a b c e f : Int) (cells : List Int), 0 ≤ b ∧ d = .list [.int a, .int b, .int c, .int e, .list (cells.map .int), .int f]
theorem take_w {s : D} {m : Int} (hs : Sd s) (h0 : 0 < m) (h1 : m < 1073741824) {Q : D → List D → Prop} (q : ∀ (r : Int) (s' : D), Sd s' → 0 ≤ r → r < m → Q (.int r) [s', .int m]) : Wq (f__law_take [s, .int m]) Q := by
  obtain ⟨a, b, c, e, f, cells, hb, rfl⟩ := hs
  unfold f__law_take m__law_take
  top_reprB
  all_goals refine q _ _ ⟨_, _, _, _, _, cells, ?_, rfl⟩ (by assumption) (by assumption)
  all_goals omega
local macro_rules | `(tactic| allgen_close_more) => `(tactic| (with_reducible refine take_w ?h1 ?h2 ?h3 ?_; (case h1 => assumption); (case h2 => allgen_close2_more); (case h3 => allgen_close2_more); intro _ _ _ _ _))
theorem pick_w {s : D} {ds : List D} (hs : Sd s) (h0 : 0 < ds.length) (h1 : ds.length < 1073741824) {Q : D → List D → Prop} (q : ∀ (r : D) (s' : D), Sd s' → r ∈ ds → Q r [s', .list ds]) : Wq (f__law_pick [s, .list ds]) Q := by
  unfold f__law_pick m__law_pick
  top_reprB
  refine W_atI (by assumption) (by assumption) fun d hd => ?_
  top_reprB
  exact q _ _ (by assumption) (List.mem_of_getElem? hd)
theorem pickT_w {s : D} {ds : List D} (hs : Sd s) (h0 : 0 < ds.length) (h1 : ds.length < 1073741824) {Q : D → List D → Prop} (q : ∀ (r : D) (s' : D), Sd s' → r ∈ ds → Q r [s', .tuple ds]) : Wq (f__law_pick [s, .tuple ds]) Q := by
  unfold f__law_pick m__law_pick
  top_reprB
  refine W_atI (by assumption) (by assumption) fun d hd => ?_
  top_reprB
  exact q _ _ (by assumption) (List.mem_of_getElem? hd)
theorem shuffled_w {s : D} {ds : List D} (hs : Sd s) (h1 : ds.length < 16777216) {Q : D → List D → Prop} (q : ∀ (es : List D) (s' : D), Sd s' → es.Perm ds → Q (.list es) [s', .list ds]) : Wq (f__law_shuffled [s, .list ds]) Q := by
  unfold f__law_shuffled m__law_shuffled
  top_reprB
  refine W_forR (fun k ρ => ∃ s' left found j1 j2, ρ = [some (true, s'), some (false, .list ds), some (false, .list left), some (true, .list found), j1, j2] ∧ Sd s' ∧ (found ++ left).Perm ds ∧ left.length + k = ds.length) ⟨s, ds, [], _, _, rfl, hs, List.Perm.refl _, rfl⟩ (fun k ρ hk ⟨s', left, found, j1, j2, e, h2, h3, h4⟩ => ?_) fun ρ ⟨s', left, found, j1, j2, e, h2, h3, h4⟩ => ?_
  · subst e
    have := h3.length_eq
    simp only [List.length_append] at this
    top_reprB
    refine W_atI (by assumption) (by assumption) fun d hd => ?_
    top_reprB
    rename_i r s2 h5 h6 h7
    rw [cut_hi h6, cut_lo (show 0 ≤ r + 1 by omega)]
    refine w_addL ?_ ?_
    · simp only [List.length_take, List.length_drop]; omega
    top_reprB
    refine ⟨_, _, _, _, _, rfl, h5, ?_, ?_⟩
    · have := perm_pick h3 hd
      rwa [show (r + 1).toNat = r.toNat + 1 by omega]
    · simp only [List.length_append, List.length_take, List.length_drop]; omega
  · subst e
    top_reprB
    have : left = [] := List.length_eq_zero_iff.mp (by simp only [Int.toNat_natCast] at h4; omega)
    subst this
    exact q _ _ h2 (by simpa using h3)
end K05W

set_option Elab.async false
set_option linter.all false
set_option maxRecDepth 100000
set_option maxHeartbeats 4000000
namespace K05W
open PySem PySem.Spec PyProof.Rows L2 GxR GenX OwnK PD
/-! P2: names -/
local macro_rules | `(tactic| tb_rel) => `(tactic| simp -dsimp only [q_runD, q_runN, W_seq, q_asg, q_ifS, q_ret, q_drop, W_next, W_break, W_cont, q_for, q_put, q_aug, q_augL, q_mut, q_par, q_bin, q_un, q_app, q_nil, q_cons, q_consIo, q_call, q_callK, q_tab, q_if, q_andT, q_orT, q_notT, q_andV, q_orV, q_notV, q_mB, q_mP, q_noP, q_sl, q_items, q_range, q_chain, q_get2, q_lc, q_dc, q_an, q_su, q_mC, W_some, W_none, W_ite, q_some, q_none, q_ite, W_map, W_bind, bcs_true, bcs_false, bcs_dec, bcs_not, seqQ_nx, seqQ_rt, seqQ_bk, seqQ_ct, forQ_nx, forQ_rt, forQ_bk, forQ_ct, rQ_nx, rQ_rt, rQN_rt, boolQ_bool, intQ_int, strQ_str, dictQ_dict, ownQ_true, borQ_false, list2Q_eq, mFrz_eq, mVar, mOwn, mYes, gSet, gOwn, gTupT, gsCons, gsNil, putBack, wipeR, startR, ioR, backR_eq, backRl, slotD_some, slotD_none, gAdd_ii, gSub_ii, gAddI, gSubI, gLt, gLe, gGt, gGe, gEq_ii, gNe_ii, gInt, gLen_l, gLen_t, gLen_d, gAbs, gMax2, gMin2, keyD_i, keyD_s, gItems_l, gItems_t, gNeg, gListOf, gTupOf, gSl_l, gSl_t, gIs, gIsNot, isN, gMul_s0, gMul_s1, gIxL, gIx_l, gIx_t, gIx_di, gIx_ds, gPow_1018, atI_0, atI_1, atI_2, atI_3, atI_4, atI_5, atI_6, atI_7, gPutL_0, gPutL_1, gPutL_2, gPutL_3, gPutL_4, gPutL_5,
  List.getElem?_cons_zero, List.getElem?_cons_succ, List.set_cons_zero, List.set_cons_succ, List.length_cons, List.length_nil, List.cons_append, List.nil_append, List.replicate, List.map_cons, List.map_nil, Nat.reduceAdd, Nat.reduceSub, Nat.reduceLT, Nat.reduceLeDiff, Nat.zero_add, ↓reduceIte, Nat.lt_add_one, Nat.succ_eq_add_one, List.mem_cons, List.not_mem_nil, or_false, or_true, true_and, and_true, not_true_eq_false, not_false_eq_true, forall_const, decide_true, decide_false, decide_eq_true_eq, reduceCtorEq, ne_eq])
local macro_rules | `(tactic| allgen_close2_more) => `(tactic| first | omega | (simp only [List.length_append, List.length_cons, List.length_nil, List.length_map, List.length_range] at *; omega) | (simp only [len_app, len_one, len_empty] at *; omega))
local macro_rules | `(tactic| tb_start) => `(tactic| first
  | (with_reducible refine w_mul ?hh ?_; (case hh => first | omega | (left; omega) | (right; omega)))
  | (with_reducible refine w_mod ?hh ?_; (case hh => omega); intro _ _)
  | (with_reducible refine w_div ?hh ?hj ?_; (case hh => omega); (case hj => omega))
  | (with_reducible refine wr1 ?hh ?hj ?_; (case hh => allgen_close2_more); (case hj => allgen_close2_more))
  | (with_reducible refine W_atM ?hh ?hj ?_; (case hh => omega); (case hj => allgen_close2_more); intro _ _)
  | (with_reducible refine W_atL ?hh ?hj ?_; (case hh => omega); (case hj => allgen_close2_more); intro _ _)
  | (with_reducible refine w_putM ?hh ?hj ?_; (case hh => omega); (case hj => allgen_close2_more))
  | (with_reducible refine w_app ?hh ?_; (case hh => allgen_close2_more))
  | (with_reducible refine w_addS ?hh ?_; (case hh => allgen_close2_more))
  | (with_reducible refine w_slS ?hh ?_; (case hh => allgen_close2_more))
  | (with_reducible refine w_addL ?hh ?_; (case hh => allgen_close2_more))
  | (with_reducible refine w_addT ?hh ?_; (case hh => allgen_close2_more))
  | (with_reducible refine w_gLst ?hh ?_; (case hh => (simp; done)))
  | (with_reducible refine w_gTup ?hh ?_; (case hh => (simp; done)))
  | (with_reducible refine w_eq (a := ?aa) ?hh ?_; (case hh => with_reducible assumption))
  | (with_reducible refine w_eqS true ?hh ?_; (case hh => decide +kernel))
  | (with_reducible refine w_eqS false ?hh ?_; (case hh => decide +kernel))
  | (with_reducible refine w_lookT ?hh ?_; (case hh => decide +kernel))
  | (with_reducible refine w_lookF ?hh ?_; (case hh => decide +kernel))
  | (with_reducible refine w_lenSet ?hh ?_; (case hh => allgen_close2_more))
  | with_reducible refine w_tcount ?_
  | with_reducible refine w_sum ?_
  | with_reducible refine w_sorted ?_
  | allgen_close_more)
local macro_rules | `(tactic| top_reprB) => `(tactic| repeat' (first | tb_rel | tb_start | intro _ | (with_reducible refine And.intro ?_ ?_)))
local macro_rules | `(tactic| allgen_close_more) => `(tactic| (with_reducible refine mixed_w _ _ ?_; intro _))
local macro_rules | `(tactic| allgen_close_more) => `(tactic| (with_reducible refine take_w ?h1 ?h2 ?h3 ?_; (case h1 => assumption); (case h2 => allgen_close2_more); (case h3 => allgen_close2_more); intro _ _ _ _ _))
local macro_rules | `(tactic| allgen_close_more) => `(tactic| (with_reducible refine pick_w ?h1 ?h2 ?h3 ?_; (case h1 => assumption); (case h2 => allgen_close2_more); (case h3 => allgen_close2_more); intro _ _ _ _))
local macro_rules | `(tactic| allgen_close_more) => `(tactic| (with_reducible refine pickT_w ?h1 ?h2 ?h3 ?_; (case h1 => assumption); (case h2 => allgen_close2_more); (case h3 => allgen_close2_more); intro _ _ _ _))
local macro_rules | `(tactic| allgen_close_more) => `(tactic| (with_reducible refine shuffled_w ?h1 ?h3 ?_; (case h1 => assumption); (case h3 => allgen_close2_more); intro _ _ _ _))
theorem start_w {ns : List Int} (h : ns.length ≤ 63) {Q : D → List D → Prop} (q : ∀ s, Sd s → Q s [.list (ns.map .int)]) : Wq (f__law_start [.list (ns.map .int)]) Q := by
  unfold f__law_start m__law_start
  top_reprB
  rw [cut_hi (by decide)]
  rw [List.take_of_length_le (by simpa using h)]
  refine W_forM ns .int (fun pre ρ => ∃ (m : Int) (j : Option (Bool × D)), ρ = [some (false, .list (ns.map .int)), some (false, .int m), j]) ⟨_, _, rfl⟩ (fun pre x post ρ e ⟨m, j, h⟩ => ?_) fun ρ ⟨m, j, h⟩ => ?_
  · subst h
    top_reprB
    exact ⟨_, _, rfl⟩
  · subst h
    top_reprB
    rw [cut_hi (by decide)]
    rw [List.take_of_length_le (by simpa using h)]
    top_reprB
    exact q _ ⟨_, _, _, _, _, _, by decide, rfl⟩
theorem perm_map {α β : Type} {f : α → β} {es ds : List β} (p : es.Perm ds) : ∀ xs : List α, ds = xs.map f → ∃ ys : List α, es = ys.map f ∧ ys.Perm xs := by
  induction p with
  | nil => exact fun xs e => ⟨[], rfl, by
      cases xs with
      | nil => exact .nil
      | cons _ _ => cases e⟩
  | cons a p ih =>
    intro xs e
    cases xs with
    | nil => cases e
    | cons x r =>
      cases e
      obtain ⟨ys, h1, h2⟩ := ih r rfl
      exact ⟨x :: ys, by rw [h1]; rfl, h2.cons x⟩
  | swap a b l =>
    intro xs e
    match xs, e with
    | x :: y :: r, e =>
      cases e
      exact ⟨y :: x :: r, rfl, .swap _ _ _⟩
  | trans p p' ih1 ih2 =>
    intro xs e
    obtain ⟨ys, h1, h2⟩ := ih2 xs e
    obtain ⟨zs, h3, h4⟩ := ih1 ys h1
    exact ⟨zs, h3, h4.trans h2⟩
theorem nd_inj {α : Type} {l : List α} (h : l.Nodup) {i j : Nat} (hi : i < l.length) (hj : j < l.length) (e : l[i] = l[j]) : i = j := by
  have h := List.pairwise_iff_getElem.mp h
  rcases Nat.lt_trichotomy i j with z | z | z
  · exact absurd e (h i j hi hj z)
  · exact z
  · exact absurd e.symm (h j i hj hi z)
theorem shufM_w {α : Type} {s : D} {xs : List α} {e : α → D} (hs : Sd s) (h1 : xs.length < 16777216) {Q : D → List D → Prop} (q : ∀ (ys : List α) (s' : D), Sd s' → ys.Perm xs → Q (.list (ys.map e)) [s', .list (xs.map e)]) : Wq (f__law_shuffled [s, .list (xs.map e)]) Q :=
  shuffled_w hs (by simpa using h1) fun es s' h2 h3 => by
    obtain ⟨ys, rfl, h⟩ := perm_map h3 xs rfl
    exact q ys s' h2 h
theorem pickM_w {α : Type} {s : D} {xs : List α} {e : α → D} (hs : Sd s) (h0 : 0 < xs.length) (h1 : xs.length < 1073741824) {Q : D → List D → Prop} (q : ∀ (x : α) (s' : D), Sd s' → x ∈ xs → Q (e x) [s', .list (xs.map e)]) : Wq (f__law_pick [s, .list (xs.map e)]) Q :=
  pick_w hs (by simpa using h0) (by simpa using h1) fun r s' h2 h3 => by
    obtain ⟨x, hx, rfl⟩ := List.mem_map.mp h3
    exact q x s' h2 hx
theorem pickMT_w {α : Type} {s : D} {xs : List α} {e : α → D} (hs : Sd s) (h0 : 0 < xs.length) (h1 : xs.length < 1073741824) {Q : D → List D → Prop} (q : ∀ (x : α) (s' : D), Sd s' → x ∈ xs → Q (e x) [s', .tuple (xs.map e)]) : Wq (f__law_pick [s, .tuple (xs.map e)]) Q :=
  pickT_w hs (by simpa using h0) (by simpa using h1) fun r s' h2 h3 => by
    obtain ⟨x, hx, rfl⟩ := List.mem_map.mp h3
    exact q x s' h2 hx
def signs : Str := "abcdefghijklmnopqrstuvwxyz0123456789."
theorem signs_len : signs.length = 37 := by decide +kernel
theorem signs_ok : PyData.strOk signs = true := by decide +kernel
theorem signs_nd : (cs signs).Nodup := by decide +kernel
/-- the sign of a place -/
def sg (start step : Int) (k : Nat) : Nat := (cs signs).getD ((start + step * (k : Int)).fmod 37).toNat 0
theorem prime37 : ∀ a : Fin 37, ∀ b : Fin 37, a.val ≠ 0 → b.val ≠ 0 → (a.val * b.val) % 37 ≠ 0 := by decide +kernel
theorem sg_lt (start step : Int) (k : Nat) : ((start + step * (k : Int)).fmod 37).toNat < (cs signs).length := by
  rw [cs_len, signs_len]
  have h1 := Int.fmod_nonneg_of_pos (start + step * (k : Int)) (show (0 : Int) < 37 by decide)
  have h2 := Int.fmod_lt_of_pos (start + step * (k : Int)) (show (0 : Int) < 37 by decide)
  omega
theorem sg_inj {start step : Int} (h0 : 0 < step) (h1 : step < 37) {j k : Nat} (hj : j < k) (hk : k < 37) : sg start step j ≠ sg start step k := by
  intro e
  unfold sg at e
  have l1 := sg_lt start step j
  have l2 := sg_lt start step k
  rw [← List.getElem_eq_getD (h := l1), ← List.getElem_eq_getD (h := l2)] at e
  have e := nd_inj signs_nd l1 l2 e
  have a1 := Int.fmod_nonneg_of_pos (start + step * (j : Int)) (show (0 : Int) < 37 by decide)
  have a2 := Int.fmod_nonneg_of_pos (start + step * (k : Int)) (show (0 : Int) < 37 by decide)
  have e : (start + step * (j : Int)).fmod 37 = (start + step * (k : Int)).fmod 37 := by omega
  rw [Int.fmod_eq_emod_of_nonneg _ (by decide), Int.fmod_eq_emod_of_nonneg _ (by decide)] at e
  have h3 : ((start + step * (k : Int)) - (start + step * (j : Int))) % 37 = 0 := by omega
  have h4 : (start + step * (k : Int)) - (start + step * (j : Int)) = ((step.toNat * (k - j) : Nat) : Int) := by
    rw [Int.natCast_mul, Int.toNat_of_nonneg (by omega), Int.natCast_sub (by omega), Int.mul_sub]
    omega
  rw [h4] at h3
  exact prime37 ⟨step.toNat, by omega⟩ ⟨k - j, by omega⟩ (by show step.toNat ≠ 0; omega) (by show k - j ≠ 0; omega) (by show step.toNat * (k - j) % 37 = 0; omega)
end K05W

set_option Elab.async false
set_option linter.all false
set_option maxRecDepth 100000
set_option maxHeartbeats 4000000
namespace K05W
open PySem PySem.Spec PyProof.Rows L2 GxR GenX OwnK PD
/-! P3: names -/
local macro_rules | `(tactic| tb_rel) => `(tactic| simp -dsimp only [q_runD, q_runN, W_seq, q_asg, q_ifS, q_ret, q_drop, W_next, W_break, W_cont, q_for, q_put, q_aug, q_augL, q_mut, q_par, q_bin, q_un, q_app, q_nil, q_cons, q_consIo, q_call, q_callK, q_tab, q_if, q_andT, q_orT, q_notT, q_andV, q_orV, q_notV, q_mB, q_mP, q_noP, q_sl, q_items, q_range, q_chain, q_get2, q_lc, q_dc, q_an, q_su, q_mC, W_some, W_none, W_ite, q_some, q_none, q_ite, W_map, W_bind, bcs_true, bcs_false, bcs_dec, bcs_not, seqQ_nx, seqQ_rt, seqQ_bk, seqQ_ct, forQ_nx, forQ_rt, forQ_bk, forQ_ct, rQ_nx, rQ_rt, rQN_rt, boolQ_bool, intQ_int, strQ_str, dictQ_dict, ownQ_true, borQ_false, list2Q_eq, mFrz_eq, mVar, mOwn, mYes, gSet, gOwn, gTupT, gsCons, gsNil, putBack, wipeR, startR, ioR, backR_eq, backRl, slotD_some, slotD_none, gAdd_ii, gSub_ii, gAddI, gSubI, gLt, gLe, gGt, gGe, gEq_ii, gNe_ii, gInt, gLen_l, gLen_t, gLen_d, gAbs, gMax2, gMin2, keyD_i, keyD_s, gItems_l, gItems_t, gNeg, gListOf, gTupOf, gSl_l, gSl_t, gIs, gIsNot, isN, gMul_s0, gMul_s1, gIxL, gIx_l, gIx_t, gIx_di, gIx_ds, gPow_1018, atI_0, atI_1, atI_2, atI_3, atI_4, atI_5, atI_6, atI_7, gPutL_0, gPutL_1, gPutL_2, gPutL_3, gPutL_4, gPutL_5,
  List.getElem?_cons_zero, List.getElem?_cons_succ, List.set_cons_zero, List.set_cons_succ, List.length_cons, List.length_nil, List.cons_append, List.nil_append, List.replicate, List.map_cons, List.map_nil, Nat.reduceAdd, Nat.reduceSub, Nat.reduceLT, Nat.reduceLeDiff, Nat.zero_add, ↓reduceIte, Nat.lt_add_one, Nat.succ_eq_add_one, List.mem_cons, List.not_mem_nil, or_false, or_true, true_and, and_true, not_true_eq_false, not_false_eq_true, forall_const, decide_true, decide_false, decide_eq_true_eq, reduceCtorEq, ne_eq])
local macro_rules | `(tactic| allgen_close2_more) => `(tactic| first | omega | (simp only [List.length_append, List.length_cons, List.length_nil, List.length_map, List.length_range] at *; omega) | (simp only [len_app, len_one, len_empty] at *; omega))
local macro_rules | `(tactic| tb_start) => `(tactic| first
  | (with_reducible refine w_mul ?hh ?_; (case hh => first | omega | (left; omega) | (right; omega)))
  | (with_reducible refine w_mod ?hh ?_; (case hh => omega); intro _ _)
  | (with_reducible refine w_div ?hh ?hj ?_; (case hh => omega); (case hj => omega))
  | (with_reducible refine wr1 ?hh ?hj ?_; (case hh => allgen_close2_more); (case hj => allgen_close2_more))
  | (with_reducible refine W_atM ?hh ?hj ?_; (case hh => omega); (case hj => allgen_close2_more); intro _ _)
  | (with_reducible refine W_atL ?hh ?hj ?_; (case hh => omega); (case hj => allgen_close2_more); intro _ _)
  | (with_reducible refine w_putM ?hh ?hj ?_; (case hh => omega); (case hj => allgen_close2_more))
  | (with_reducible refine w_app ?hh ?_; (case hh => allgen_close2_more))
  | (with_reducible refine w_addS ?hh ?_; (case hh => allgen_close2_more))
  | (with_reducible refine w_slS ?hh ?_; (case hh => allgen_close2_more))
  | (with_reducible refine w_addL ?hh ?_; (case hh => allgen_close2_more))
  | (with_reducible refine w_addT ?hh ?_; (case hh => allgen_close2_more))
  | (with_reducible refine w_gLst ?hh ?_; (case hh => (simp; done)))
  | (with_reducible refine w_gTup ?hh ?_; (case hh => (simp; done)))
  | (with_reducible refine w_eq (a := ?aa) ?hh ?_; (case hh => with_reducible assumption))
  | (with_reducible refine w_eqS true ?hh ?_; (case hh => decide +kernel))
  | (with_reducible refine w_eqS false ?hh ?_; (case hh => decide +kernel))
  | (with_reducible refine w_lookT ?hh ?_; (case hh => decide +kernel))
  | (with_reducible refine w_lookF ?hh ?_; (case hh => decide +kernel))
  | (with_reducible refine w_lenSet ?hh ?_; (case hh => allgen_close2_more))
  | with_reducible refine w_tcount ?_
  | with_reducible refine w_sum ?_
  | with_reducible refine w_sorted ?_
  | allgen_close_more)
local macro_rules | `(tactic| top_reprB) => `(tactic| repeat' (first | tb_rel | tb_start | intro _ | (with_reducible refine And.intro ?_ ?_)))
local macro_rules | `(tactic| allgen_close_more) => `(tactic| (with_reducible refine mixed_w _ _ ?_; intro _))
local macro_rules | `(tactic| allgen_close_more) => `(tactic| (with_reducible refine take_w ?h1 ?h2 ?h3 ?_; (case h1 => assumption); (case h2 => allgen_close2_more); (case h3 => allgen_close2_more); intro _ _ _ _ _))
local macro_rules | `(tactic| allgen_close_more) => `(tactic| (with_reducible refine pick_w ?h1 ?h2 ?h3 ?_; (case h1 => assumption); (case h2 => allgen_close2_more); (case h3 => allgen_close2_more); intro _ _ _ _))
local macro_rules | `(tactic| allgen_close_more) => `(tactic| (with_reducible refine pickT_w ?h1 ?h2 ?h3 ?_; (case h1 => assumption); (case h2 => allgen_close2_more); (case h3 => allgen_close2_more); intro _ _ _ _))
local macro_rules | `(tactic| allgen_close_more) => `(tactic| (with_reducible refine shuffled_w ?h1 ?h3 ?_; (case h1 => assumption); (case h3 => allgen_close2_more); intro _ _ _ _))
local macro_rules | `(tactic| allgen_close_more) => `(tactic| (with_reducible refine w_ixS ?h1 ?h2 ?h3 ?_; (case h1 => rw [signs_len]; decide); (case h2 => omega); (case h3 => rw [signs_len]; omega); intro _ _))
local macro_rules | `(tactic| allgen_close_more) => `(tactic| (with_reducible refine w_str ?h1 ?h2 ?_; (case h1 => omega); (case h2 => omega)))
def nmF (style start step one two : Int) (word : Str) (k : Nat) : Str :=
  if style = 0 then (⟨#[sg start step k]⟩ : Str) ++ Str.empty
  else if style = 1 then cutS word none (some one) ++ ⟨#[sg start step k]⟩ ++ Str.ofString (toString (0 + (k : Nat) : Int))
  else if style = 2 then cutS word none (some (1 + one.fdiv 4)) ++ Str.ofString "." ++ Str.ofString (toString ((0 + (k : Nat) : Int).fdiv 3)) ++ Str.ofString "." ++ Str.ofString (toString ((0 + (k : Nat) : Int).fmod 3))
  else cutS word none (some one) ++ ⟨#[sg start step k]⟩ ++ cutS word (some (one + 1)) (some (12 + two)) ++ ⟨#[97]⟩ ++ cutS word (some (12 + two + 1)) none
def suf (k : Nat) : List Nat := cs (Str.ofString ".") ++ (cs (Str.ofString (toString ((0 + (k : Nat) : Int).fdiv 3))) ++ (cs (Str.ofString ".") ++ cs (Str.ofString (toString ((0 + (k : Nat) : Int).fmod 3)))))
theorem suf_nd : ((List.range 32).map suf).Nodup := by decide +kernel
theorem suf_ne {j k : Nat} (h : j < k) (hk : k < 32) : suf j ≠ suf k := by
  have := List.pairwise_iff_getElem.mp suf_nd j k (by simp; omega) (by simp; omega) h
  simpa using this
theorem nm_ne {style start step one two : Int} {word : Str} (h0 : 0 < step) (h1 : step < 37) {j k : Nat} (h : j < k) (hk : k < 32) : nmF style start step one two word j ≠ nmF style start step one two word k := by
  intro e
  have e := congrArg cs e
  unfold nmF at e
  have hs := sg_inj (start := start) h0 h1 h (by omega)
  by_cases c0 : style = 0
  · rw [if_pos c0, if_pos c0, cs_app, cs_app] at e
    have e : sg start step j :: cs Str.empty = sg start step k :: cs Str.empty := e
    exact hs (List.cons.inj e).1
  by_cases c1 : style = 1
  · rw [if_neg c0, if_neg c0, if_pos c1, if_pos c1] at e
    simp only [cs_app, List.append_assoc] at e
    have e : sg start step j :: _ = sg start step k :: _ := List.append_cancel_left e
    exact hs (List.cons.inj e).1
  by_cases c2 : style = 2
  · rw [if_neg c0, if_neg c0, if_neg c1, if_neg c1, if_pos c2, if_pos c2] at e
    simp only [cs_app, List.append_assoc] at e
    exact suf_ne h hk (List.append_cancel_left e)
  · rw [if_neg c0, if_neg c0, if_neg c1, if_neg c1, if_neg c2, if_neg c2] at e
    simp only [cs_app, List.append_assoc] at e
    have e : sg start step j :: _ = sg start step k :: _ := List.append_cancel_left e
    exact hs (List.cons.inj e).1
theorem sg_ok (start step : Int) (k : Nat) : PyData.strOk ⟨#[sg start step k]⟩ = true := by
  refine ok_one (a := signs) (i := ((start + step * (k : Int)).fmod 37).toNat) ?_ signs_ok
  unfold sg
  rw [List.getElem?_eq_getElem (sg_lt start step k), List.getElem_eq_getD 0]
theorem nm_ok {style start step one two : Int} {word : Str} (hw : PyData.strOk word = true) (hl : word.length = 24) {k : Nat} (hk : k < 32) : PyData.strOk (nmF style start step one two word k) = true ∧ (nmF style start step one two word k).length ≤ 100 := by
  have d3 : ((0 + (k : Nat) : Int)).fdiv 3 = ((0 + (k : Nat) : Int)) / 3 := Int.fdiv_eq_ediv_of_nonneg _ (by decide)
  have m3 : ((0 + (k : Nat) : Int)).fmod 3 = ((0 + (k : Nat) : Int)) % 3 := Int.fmod_eq_emod_of_nonneg _ (by decide)
  have s1 := len_str100 (i := (0 + (k : Nat) : Int)) (by omega) (by omega)
  have s2 := len_str100 (i := ((0 + (k : Nat) : Int)).fdiv 3) (by omega) (by omega)
  have s3 := len_str100 (i := ((0 + (k : Nat) : Int)).fmod 3) (by omega) (by omega)
  have t1 := ok_str100 (i := (0 + (k : Nat) : Int)) (by omega) (by omega)
  have t2 := ok_str100 (i := ((0 + (k : Nat) : Int)).fdiv 3) (by omega) (by omega)
  have t3 := ok_str100 (i := ((0 + (k : Nat) : Int)).fmod 3) (by omega) (by omega)
  have hdot : (Str.ofString ".").length = 1 := by decide +kernel
  have odot : PyData.strOk (Str.ofString ".") = true := by decide +kernel
  have l1 := hl ▸ len_cut word none (some one)
  have l2 := hl ▸ len_cut word (some (one + 1)) (some (12 + two))
  have l3 := hl ▸ len_cut word (some (12 + two + 1)) none
  have l4 := hl ▸ len_cut word none (some (1 + one.fdiv 4))
  have o := sg_ok start step k
  unfold nmF
  split
  · exact ⟨ok_app o (by decide +kernel), by simp only [len_app, len_one, len_empty]; omega⟩
  split
  · exact ⟨ok_app (ok_app (ok_cut hw _ _) o) t1, by simp only [len_app, len_one, len_empty]; omega⟩
  split
  · exact ⟨ok_app (ok_app (ok_app (ok_app (ok_cut hw _ _) odot) t2) odot) t3, by simp only [len_app, len_one, len_empty]; omega⟩
  · exact ⟨ok_app (ok_app (ok_app (ok_app (ok_cut hw _ _) o) (ok_cut hw _ _)) (by decide +kernel)) (ok_cut hw _ _), by simp only [len_app, len_one, len_empty]; omega⟩
theorem names_w {s : D} {many : Int} (hs : Sd s) (h0 : 0 ≤ many) (h1 : many ≤ 32) {Q : D → List D → Prop} (q : ∀ (zs : List Str) (s' : D), Sd s' → zs.length = many.toNat → zs.Nodup → (∀ z ∈ zs, PyData.strOk z = true ∧ z.length ≤ 100) → Q (.list (zs.map .str)) [s', .int many]) : Wq (f__law_names [s, .int many]) Q := by
  unfold f__law_names m__law_names
  top_reprB
  rename_i style sA hA sty0 sty1 start sB hB st0 st1 step sC hC ste0 ste1
  have hS : signs.length ≤ 16777216 := by rw [signs_len]; decide
  refine q_lcE (List.range (Int.toNat 24)) (fun i => .int (0 + (i : Nat))) (fun ρ => ∃ s', Sd s' ∧ ρ = [some (true, s'), some (false, .int many), some (false, .str signs), some (false, .int style), some (false, .int start), some (false, .int (1 + step)), none, none, none, none, none, none, none]) PyData.str (fun _ z => PyData.strOk z = true ∧ z.length = 1) (by decide) ⟨_, hC, rfl⟩ (fun x hx ρ ⟨s', h2, e⟩ => ?_) (fun zs ρ hl hp ⟨s', h2, e⟩ => ?_)
  · subst e
    top_reprB
    rename_i hc
    · exact ⟨_, rfl, ok_one hc signs_ok, rfl⟩
    · exact ⟨_, by assumption, rfl⟩
  have hz : ∀ z ∈ zs, PyData.strOk z = true ∧ z.length = 1 := fun z hz => by
    obtain ⟨i, hi, e⟩ := List.mem_iff_getElem.mp hz
    have h2 : zs[i]? = some z := by rw [List.getElem?_eq_getElem hi, e]
    have h1 : (List.range (Int.toNat 24))[i]? = some i := by
      rw [List.getElem?_range]; rw [hl, List.length_range] at hi; exact hi
    exact hp i i z h1 h2
  have hsum : (zs.map (·.length)).sum = 24 := by
    have : zs.map (·.length) = List.replicate 24 1 := by
      rw [List.eq_replicate_iff]
      exact ⟨by rw [List.length_map, hl]; rfl, fun b hb => by obtain ⟨z, h1, rfl⟩ := List.mem_map.mp hb; exact (hz z h1).2⟩
    rw [this]; rfl
  refine w_join (by rw [hsum]; decide) ?_
  have hw1 : (Txt.join "" zs).length = 24 := by rw [len_join, hsum]
  have hw2 : PyData.strOk (Txt.join "" zs) = true := ok_join fun z h => (hz z h).1
  generalize Txt.join "" zs = word at *
  clear hp hz hsum hl
  subst e
  top_reprB
  rename_i one sD hD o0 o1 two sE hE t0 t1
  have hdot : (Str.ofString ".").length = 1 := by decide +kernel
  refine W_forR (fun k ρ => ∃ a b c, ρ = [some (true, sE), some (false, .int many), some (false, .str signs), some (false, .int style), some (false, .int start), some (false, .int (1 + step)), some (false, .str word), some (false, .int one), some (false, .int (12 + two)), some (true, .list ((List.range k).map fun j => .str (nmF style start (1 + step) one two word j))), a, b, c]) ⟨_, _, _, rfl⟩ (fun k ρ hk ⟨a, b, c, e⟩ => ?_) fun ρ ⟨a, b, c, e⟩ => ?_
  · subst e
    have l1 := hw1 ▸ len_cut word none (some one)
    have l2 := hw1 ▸ len_cut word (some (one + 1)) (some (12 + two))
    have l3 := hw1 ▸ len_cut word (some (12 + two + 1)) none
    have l4 := hw1 ▸ len_cut word none (some (1 + one.fdiv 4))
    have d37 : ((0 + (k : Nat) : Int)).fdiv 37 = 0 := by rw [Int.fdiv_eq_ediv_of_nonneg _ (by decide)]; omega
    have d3 : ((0 + (k : Nat) : Int)).fdiv 3 = ((0 + (k : Nat) : Int)) / 3 := Int.fdiv_eq_ediv_of_nonneg _ (by decide)
    have m3 : ((0 + (k : Nat) : Int)).fmod 3 = ((0 + (k : Nat) : Int)) % 3 := Int.fmod_eq_emod_of_nonneg _ (by decide)
    have s1 := len_str100 (i := (0 + (k : Nat) : Int)) (by omega) (by omega)
    have s2 := len_str100 (i := ((0 + (k : Nat) : Int)).fdiv 3) (by omega) (by omega)
    have s3 := len_str100 (i := ((0 + (k : Nat) : Int)).fmod 3) (by omega) (by omega)
    have hm : ¬ 37 < many := by omega
    have h97 : ∀ c, (cs signs)[((0 + (k : Nat) : Int).fdiv 37).toNat]? = some c → c = 97 := fun c h => by
      rw [d37] at h
      have : (cs signs)[(0 : Int).toNat]? = some 97 := by decide +kernel
      rw [this] at h
      exact (Option.some.inj h).symm
    have hsg : ∀ c, (cs signs)[((start + (1 + step) * (0 + (k : Nat) : Int)).fmod 37).toNat]? = some c → c = sg start (1 + step) k := fun c h => by
      unfold sg
      rw [Int.zero_add] at h
      rw [List.getD_eq_getElem?_getD, h]
      rfl
    have hfin : ∀ nm, nm = nmF style start (1 + step) one two word k → (List.range k).map (fun j => PyData.str (nmF style start (1 + step) one two word j)) ++ [.str nm] = (List.range (k + 1)).map (fun j => PyData.str (nmF style start (1 + step) one two word j)) := fun nm h => by
      rw [List.range_succ, List.map_append, h]; rfl
    top_reprB
    · simp only [if_neg hm]
      top_reprB
      · have e1 := hsg _ (by assumption)
        subst e1
        rw [hfin _ (by unfold nmF; rw [if_pos (by assumption)])]
        exact ⟨_, _, _, rfl⟩
    · have e1 := hsg _ (by assumption)
      subst e1
      rw [hfin _ (by unfold nmF; rw [if_neg (by assumption), if_pos (by assumption)])]
      exact ⟨_, _, _, rfl⟩
    · have e1 := hsg _ (by assumption)
      subst e1
      rw [hfin _ (by unfold nmF; rw [if_neg (by assumption), if_neg (by assumption), if_pos (by assumption)])]
      exact ⟨_, _, _, rfl⟩
    · have e1 := hsg _ (by assumption)
      have e2 := h97 _ (by assumption)
      subst e1
      subst e2
      rw [hfin _ (by unfold nmF; rw [if_neg (by assumption), if_neg (by assumption), if_neg (by assumption)])]
      exact ⟨_, _, _, rfl⟩
  · subst e
    top_reprB
    rename_i es s2 h2 h3
    obtain ⟨ys, rfl, h4⟩ := perm_map h3 ((List.range many.toNat).map (nmF style start (1 + step) one two word)) (by rw [List.map_map]; rfl)
    refine q ys s2 h2 (by rw [h4.length_eq]; simp) ?_ ?_
    · rw [h4.nodup_iff]
      refine List.pairwise_map.mpr (List.Pairwise.imp_of_mem (fun {j k} hj hk h => ?_) List.pairwise_lt_range)
      exact nm_ne (by omega) (by omega) h (by have := List.mem_range.mp hk; omega)
    · intro z hz
      obtain ⟨k, hk, rfl⟩ := List.mem_map.mp (h4.mem_iff.mp hz)
      exact nm_ok hw2 hw1 (by have := List.mem_range.mp hk; omega)
end K05W

set_option Elab.async false
set_option linter.all false
set_option maxRecDepth 100000
set_option maxHeartbeats 4000000
namespace K05W
open PySem PySem.Spec PyProof.Rows L2 GxR GenX OwnK PD
/-! P4: domains, fillings, worlds -/
local macro_rules | `(tactic| tb_rel) => `(tactic| simp -dsimp only [q_runD, q_runN, W_seq, q_asg, q_ifS, q_ret, q_drop, W_next, W_break, W_cont, q_for, q_put, q_aug, q_augL, q_mut, q_par, q_bin, q_un, q_app, q_nil, q_cons, q_consIo, q_call, q_callK, q_tab, q_if, q_andT, q_orT, q_notT, q_andV, q_orV, q_notV, q_mB, q_mP, q_noP, q_sl, q_items, q_range, q_chain, q_get2, q_lc, q_dc, q_an, q_su, q_mC, W_some, W_none, W_ite, q_some, q_none, q_ite, W_map, W_bind, bcs_true, bcs_false, bcs_dec, bcs_not, seqQ_nx, seqQ_rt, seqQ_bk, seqQ_ct, forQ_nx, forQ_rt, forQ_bk, forQ_ct, rQ_nx, rQ_rt, rQN_rt, boolQ_bool, intQ_int, strQ_str, dictQ_dict, ownQ_true, borQ_false, list2Q_eq, mFrz_eq, mVar, mOwn, mYes, gSet, gOwn, gTupT, gsCons, gsNil, putBack, wipeR, startR, ioR, backR_eq, backRl, slotD_some, slotD_none, gAdd_ii, gSub_ii, gAddI, gSubI, gLt, gLe, gGt, gGe, gEq_ii, gNe_ii, gInt, gLen_l, gLen_t, gLen_d, gAbs, gMax2, gMin2, keyD_i, keyD_s, gItems_l, gItems_t, gNeg, gListOf, gTupOf, gSl_l, gSl_t, gIs, gIsNot, isN, gMul_s0, gMul_s1, gIxL, gIx_l, gIx_t, gIx_di, gIx_ds, gPow_1018, atI_0, atI_1, atI_2, atI_3, atI_4, atI_5, atI_6, atI_7, gPutL_0, gPutL_1, gPutL_2, gPutL_3, gPutL_4, gPutL_5,
  List.getElem?_cons_zero, List.getElem?_cons_succ, List.set_cons_zero, List.set_cons_succ, List.length_cons, List.length_nil, List.cons_append, List.nil_append, List.replicate, List.map_cons, List.map_nil, Nat.reduceAdd, Nat.reduceSub, Nat.reduceLT, Nat.reduceLeDiff, Nat.zero_add, ↓reduceIte, Nat.lt_add_one, Nat.succ_eq_add_one, List.mem_cons, List.not_mem_nil, or_false, or_true, true_and, and_true, not_true_eq_false, not_false_eq_true, forall_const, decide_true, decide_false, decide_eq_true_eq, reduceCtorEq, ne_eq])
local macro_rules | `(tactic| allgen_close2_more) => `(tactic| first | omega | (simp only [List.length_append, List.length_cons, List.length_nil, List.length_map, List.length_range] at *; omega) | (simp only [len_app, len_one, len_empty] at *; omega))
local macro_rules | `(tactic| tb_start) => `(tactic| first
  | (with_reducible refine w_mul ?hh ?_; (case hh => first | omega | (left; omega) | (right; omega)))
  | (with_reducible refine w_mod ?hh ?_; (case hh => omega); intro _ _)
  | (with_reducible refine w_div ?hh ?hj ?_; (case hh => omega); (case hj => omega))
  | (with_reducible refine wr1 ?hh ?hj ?_; (case hh => allgen_close2_more); (case hj => allgen_close2_more))
  | (with_reducible refine W_atM ?hh ?hj ?_; (case hh => omega); (case hj => allgen_close2_more); intro _ _)
  | (with_reducible refine W_atL ?hh ?hj ?_; (case hh => omega); (case hj => allgen_close2_more); intro _ _)
  | (with_reducible refine w_putM ?hh ?hj ?_; (case hh => omega); (case hj => allgen_close2_more))
  | (with_reducible refine w_app ?hh ?_; (case hh => allgen_close2_more))
  | (with_reducible refine w_addS ?hh ?_; (case hh => allgen_close2_more))
  | (with_reducible refine w_slS ?hh ?_; (case hh => allgen_close2_more))
  | (with_reducible refine w_addL ?hh ?_; (case hh => allgen_close2_more))
  | (with_reducible refine w_addT ?hh ?_; (case hh => allgen_close2_more))
  | (with_reducible refine w_gLst ?hh ?_; (case hh => (simp; done)))
  | (with_reducible refine w_gTup ?hh ?_; (case hh => (simp; done)))
  | (with_reducible refine w_eq (a := ?aa) ?hh ?_; (case hh => with_reducible assumption))
  | (with_reducible refine w_eqS true ?hh ?_; (case hh => decide +kernel))
  | (with_reducible refine w_eqS false ?hh ?_; (case hh => decide +kernel))
  | (with_reducible refine w_lookT ?hh ?_; (case hh => decide +kernel))
  | (with_reducible refine w_lookF ?hh ?_; (case hh => decide +kernel))
  | (with_reducible refine w_lenSet ?hh ?_; (case hh => allgen_close2_more))
  | with_reducible refine w_tcount ?_
  | with_reducible refine w_sum ?_
  | with_reducible refine w_sorted ?_
  | allgen_close_more)
local macro_rules | `(tactic| top_reprB) => `(tactic| repeat' (first | tb_rel | tb_start | intro _ | (with_reducible refine And.intro ?_ ?_)))
local macro_rules | `(tactic| allgen_close_more) => `(tactic| (with_reducible refine mixed_w _ _ ?_; intro _))
local macro_rules | `(tactic| allgen_close_more) => `(tactic| (with_reducible refine take_w ?h1 ?h2 ?h3 ?_; (case h1 => assumption); (case h2 => allgen_close2_more); (case h3 => allgen_close2_more); intro _ _ _ _ _))
local macro_rules | `(tactic| allgen_close_more) => `(tactic| (with_reducible refine pick_w ?h1 ?h2 ?h3 ?_; (case h1 => assumption); (case h2 => allgen_close2_more); (case h3 => allgen_close2_more); intro _ _ _ _))
local macro_rules | `(tactic| allgen_close_more) => `(tactic| (with_reducible refine pickT_w ?h1 ?h2 ?h3 ?_; (case h1 => assumption); (case h2 => allgen_close2_more); (case h3 => allgen_close2_more); intro _ _ _ _))
local macro_rules | `(tactic| allgen_close_more) => `(tactic| (with_reducible refine shuffled_w ?h1 ?h3 ?_; (case h1 => assumption); (case h3 => allgen_close2_more); intro _ _ _ _))
local macro_rules | `(tactic| allgen_close_more) => `(tactic| (with_reducible refine shufM_w ?h1 ?h3 ?_; (case h1 => assumption); (case h3 => allgen_close2_more); intro _ _ _ _))
local macro_rules | `(tactic| allgen_close_more) => `(tactic| (with_reducible refine pickM_w ?h1 ?h2 ?h3 ?_; (case h1 => assumption); (case h2 => allgen_close2_more); (case h3 => allgen_close2_more); intro _ _ _ _))
local macro_rules | `(tactic| allgen_close_more) => `(tactic| (with_reducible refine pickMT_w ?h1 ?h2 ?h3 ?_; (case h1 => assumption); (case h2 => allgen_close2_more); (case h3 => allgen_close2_more); intro _ _ _ _))
def Bd (n : Int) : Prop := -1000 ≤ n ∧ n ≤ 1000
def eDm (d : Str × List Int) : D := .tuple [.str d.1, .tuple (d.2.map .int)]
def eRow (r : List Int) : D := .tuple (r.map .int)
theorem id_wp {α : Type} {o : Option α} {Q : α → Prop} (h : Wp o Q) : Wp o Q := h
theorem id_wq {α β : Type} {o : Option (α × β)} {Q : α → β → Prop} (h : PD.Wq o Q) : PD.Wq o Q := h
local macro_rules | `(tactic| allgen_close_more) => `(tactic| ((first | with_reducible refine id_wp ?_ | with_reducible refine id_wq ?_); simp -dsimp only [eDm, eRow]))
theorem fillings_w {doms : List (Str × List Int)} (h1 : doms.length ≤ 6) (h2 : ∀ d ∈ doms, d.2.length ≤ 5) (h3 : ∀ d ∈ doms, ∀ v ∈ d.2, Bd v) {Q : D → List D → Prop} (q : ∀ rows : List (List Int), rows.length ≤ 15625 → (∀ r ∈ rows, r.length = doms.length ∧ ∀ v ∈ r, Bd v) → Q (.list (rows.map eRow)) [.list (doms.map eDm)]) : Wq (f__law_fillings [.list (doms.map eDm)]) Q := by
  unfold f__law_fillings m__law_fillings
  top_reprB
  refine W_forM doms eDm (fun pre ρ => ∃ (rows : List (List Int)) (a b c d : Option (Bool × D)), ρ = [some (false, .list (doms.map eDm)), some (false, .list (rows.map eRow)), a, b, c, d] ∧ rows.length ≤ 5 ^ pre.length ∧ ∀ r ∈ rows, r.length = pre.length ∧ ∀ v ∈ r, Bd v) ⟨[[]], _, _, _, _, rfl, by simp, by simp⟩ (fun pre x post ρ e ⟨rows, a, b, c, d, e2, h4, h5⟩ => ?_) fun ρ ⟨rows, a, b, c, d, e2, h4, h5⟩ => ?_
  · subst e2
    have hx : x ∈ doms := by rw [e]; simp
    have hl : pre.length < 6 := by rw [e] at h1; simp at h1; omega
    have hp : 5 ^ pre.length ≤ 3125 := by
      have : pre.length ≤ 5 := by omega
      exact Nat.le_trans (Nat.pow_le_pow_right (by decide) this) (by decide)
    top_reprB
    have hx5 := h2 x hx
    refine W_forM rows eRow (fun pre2 ρ => ∃ (ls : List (List Int)) (a b : Option (Bool × D)), ρ = [some (false, .list (doms.map eDm)), some (false, .list (rows.map eRow)), some (false, eDm x), some (false, .list (ls.map eRow)), a, b] ∧ ls.length ≤ 5 * pre2.length ∧ ∀ r ∈ ls, r.length = pre.length + 1 ∧ ∀ v ∈ r, Bd v) ⟨[], _, _, rfl, by simp, by simp⟩ (fun pre2 r post2 ρ e2 ⟨ls, a, b, e3, h6, h7⟩ => ?_) fun ρ ⟨ls, a, b, e3, h6, h7⟩ => ?_
    · subst e3
      have hr : r ∈ rows := by rw [e2]; simp
      have hl2 : pre2.length < rows.length := by rw [e2]; simp
      have hr2 := (h5 r hr).1
      top_reprB
      refine q_lcA x.2 .int (fun ρ => ∃ a, ρ = [some (false, .list (doms.map eDm)), some (false, .list (rows.map eRow)), some (false, eDm x), some (false, .list (ls.map eRow)), some (false, eRow r), a]) (fun v => eRow (r ++ [v])) (by omega) ⟨_, rfl⟩ (fun v hv ρ ⟨a, e⟩ => ?_) fun ρ ⟨a, e⟩ => ?_
      · subst e
        top_reprB
        · simp [eRow]
        · exact ⟨_, rfl⟩
      · subst e
        top_reprB
        rw [show (fun v => eRow (r ++ [v])) = eRow ∘ (fun v => r ++ [v]) from rfl, ← List.map_map, ← List.map_append]
        refine ⟨_, _, _, rfl, by simp; omega, fun l hl => ?_⟩
        rcases List.mem_append.mp hl with hl | hl
        · exact h7 l hl
        · obtain ⟨v, hv, rfl⟩ := List.mem_map.mp hl
          refine ⟨by simp [hr2], fun u hu => ?_⟩
          rcases List.mem_append.mp hu with hu | hu
          · exact (h5 r hr).2 u hu
          · rw [List.mem_singleton.mp hu]; exact h3 x hx v hv
    · subst e3
      top_reprB
      refine ⟨ls, _, _, _, _, rfl, ?_, by simpa using h7⟩
      rw [List.length_append, List.length_singleton, Nat.pow_succ]
      omega
  · subst e2
    top_reprB
    have : rows.length ≤ 15625 := Nat.le_trans h4 (Nat.le_trans (Nat.pow_le_pow_right (by decide) h1) (by decide))
    exact q rows this h5
/-- the dict of a world -/
def kvsOf (ps : List (Str × Int)) : List (D × D) := ps.foldl (fun kvs p => gPut.dput kvs (.inr p.1) (.int p.2)) []
theorem dput_len (kvs : List (D × D)) (k : Key) (d : D) : (gPut.dput kvs k d).length ≤ kvs.length + 1 := by
  unfold gPut.dput
  split <;> simp
theorem kvsOf_snoc (ps : List (Str × Int)) (p : Str × Int) : kvsOf (ps ++ [p]) = gPut.dput (kvsOf ps) (.inr p.1) (.int p.2) := by
  unfold kvsOf; rw [List.foldl_append]; rfl
theorem foldl_len : ∀ (ps : List (Str × Int)) (kvs : List (D × D)), (ps.foldl (fun kvs p => gPut.dput kvs (.inr p.1) (.int p.2)) kvs).length ≤ kvs.length + ps.length
  | [], kvs => Nat.le_refl _
  | p :: r, kvs => Nat.le_trans (foldl_len r _) (by have := dput_len kvs (.inr p.1) (.int p.2); simp; omega)
theorem kvsOf_len (ps : List (Str × Int)) : (kvsOf ps).length ≤ ps.length := Nat.le_trans (foldl_len ps []) (by simp)
theorem isT_foldl : ∀ (ps : List (Str × Int)) (kvs : List (D × D)), isT kvs = false → isT (ps.foldl (fun kvs p => gPut.dput kvs (.inr p.1) (.int p.2)) kvs) = false
  | [], _, h => h
  | p :: r, kvs, h => isT_foldl r _ (isT_dput h)
theorem isT_kvsOf (ps : List (Str × Int)) : isT (kvsOf ps) = false := isT_foldl ps [] rfl
theorem world_w {doms : List (Str × List Int)} {vs : List Int} (h1 : vs.length = doms.length) (h2 : doms.length ≤ 100) {Q : D → List D → Prop} (q : Q (.dict (kvsOf ((doms.map (·.1)).zip vs))) [.list (doms.map eDm), eRow vs]) : Wq (f__law_world [.list (doms.map eDm), eRow vs]) Q := by
  unfold f__law_world m__law_world
  top_reprB
  refine W_forR (fun k ρ => ∃ a, ρ = [some (false, .list (doms.map eDm)), some (false, eRow vs), some (true, .dict (kvsOf (((doms.map (·.1)).zip vs).take k))), a]) ⟨_, by rw [List.take_zero]; rfl⟩ (fun k ρ hk ⟨a, e⟩ => ?_) fun ρ ⟨a, e⟩ => ?_
  · subst e
    simp only [Int.toNat_natCast] at hk
    top_reprB
    rename_i v hv x hx
    have hz : ((doms.map (·.1)).zip vs)[k]? = some (x.1, v) := by
      rw [Int.zero_add, Int.toNat_natCast] at hv hx
      rw [List.getElem?_zip_eq_some]
      exact ⟨by rw [List.getElem?_map, hx]; rfl, hv⟩
    obtain ⟨hk2, hz2⟩ := List.getElem?_eq_some_iff.mp hz
    have hlen := kvsOf_len (((doms.map (·.1)).zip vs).take k)
    have : (((doms.map (·.1)).zip vs).take k).length ≤ k := List.length_take_le _ _
    have hT := isT_kvsOf (((doms.map (·.1)).zip vs).take k)
    rw [gPutDs (by simp only [List.length_map] at hk; omega)]
    top_reprB
    refine ⟨some (false, .int (0 + (k : Nat))), ?_⟩
    rw [show ((doms.map (·.1)).zip vs).take (k + 1) = ((doms.map (·.1)).zip vs).take k ++ [(x.1, v)] by rw [← hz2, List.take_append_getElem hk2], kvsOf_snoc]
  · subst e
    top_reprB
    rw [List.take_of_length_le (by simp [h1])]
    exact q
/-- what stands at a name -/
def valK (kvs : List (D × D)) (x : Str) : Int := match dget kvs (.inr x) with | some (.int v) => v | _ => 0
def AtOk (kvs : List (D × D)) (xs : List Str) : Prop := ∀ x ∈ xs, dget kvs (.inr x) = some (.int (valK kvs x)) ∧ Bd (valK kvs x)
theorem dget_dput (kvs : List (D × D)) (k k' : Key) (d : D) : dget (gPut.dput kvs k d) k' = if k' = k then some d else dget kvs k' := by
  have hm : ∀ kvs : List (D × D), dget (kvs.map (fun e => if keyD e.1 = some k then (e.1, d) else e)) k' = if k' = k ∧ (dget kvs k).isSome then some d else dget kvs k' := by
    intro kvs
    induction kvs with
    | nil => simp [dget]
    | cons e r ih =>
      obtain ⟨a, b⟩ := e
      by_cases h1 : keyD a = some k
      · by_cases h2 : k' = k
        · subst h2
          simp [dget, h1]
        · have h3 : ¬ keyD a = some k' := fun z => h2 (by rw [h1] at z; exact (Option.some.inj z).symm)
          simp [dget, h1, ih, h2]
          rw [if_neg (fun z => h2 z.symm), if_neg (fun z => h2 z.symm)]
      · by_cases h2 : keyD a = some k'
        · have h3 : ¬ k' = k := fun z => h1 (z ▸ h2)
          simp [dget, h1, h2, h3]
        · simp [dget, h1, h2, ih]
  unfold gPut.dput
  split
  · rename_i h
    rw [hm]
    by_cases h2 : k' = k <;> simp [h2, h]
  · rename_i h
    have ha : ∀ kvs : List (D × D), dget kvs k = none → dget (kvs ++ [(kD k, d)]) k' = if k' = k then some d else dget kvs k' := by
      intro kvs
      induction kvs with
      | nil =>
        intro _
        by_cases h2 : k' = k
        · subst h2; simp [dget, keyD_kD]
        · simp [dget, keyD_kD, h2]; exact fun z => h2 z.symm
      | cons e r ih =>
        obtain ⟨a, b⟩ := e
        intro hn
        by_cases h1 : keyD a = some k
        · simp [dget, h1] at hn
        · have hn : dget r k = none := by simpa [dget, h1] using hn
          by_cases h2 : keyD a = some k'
          · have h3 : ¬ k' = k := fun z => h1 (z ▸ h2)
            simp [dget, h2, h3]
          · simp [dget, h2, ih hn]
    exact ha kvs (by simpa using h)
theorem kvsOf_get (ps : List (Str × Int)) (hb : ∀ p ∈ ps, Bd p.2) : AtOk (kvsOf ps) (ps.map (·.1)) := by
  have key : ∀ (ps : List (Str × Int)) (kvs : List (D × D)) (xs : List Str), (∀ p ∈ ps, Bd p.2) → AtOk kvs xs → AtOk (ps.foldl (fun kvs p => gPut.dput kvs (.inr p.1) (.int p.2)) kvs) (xs ++ ps.map (·.1)) := by
    intro ps
    induction ps with
    | nil => intro kvs xs _ h; simpa using h
    | cons p r ih =>
      intro kvs xs hb h
      have := ih (gPut.dput kvs (.inr p.1) (.int p.2)) (xs ++ [p.1]) (fun q hq => hb q (List.mem_cons_of_mem _ hq)) (fun x hx => by
        unfold valK
        rw [dget_dput]
        by_cases e : (Sum.inr x : Key) = .inr p.1
        · rw [if_pos e]
          exact ⟨rfl, hb p List.mem_cons_self⟩
        · rw [if_neg e]
          rcases List.mem_append.mp hx with hx | hx
          · exact h x hx
          · rw [List.mem_singleton.mp hx] at e; exact absurd rfl e)
      simpa using this
  have := key ps [] [] hb (fun x h => nomatch h)
  rw [List.nil_append] at this
  exact this
theorem near_w {s : D} {doms : List (Str × List Int)} {vs : List Int} (hs : Sd s) (h0 : 0 < doms.length) (h1 : doms.length ≤ 24) (h2 : ∀ d ∈ doms, 0 < d.2.length ∧ d.2.length ≤ 12 ∧ ∀ v ∈ d.2, Bd v) (h3 : vs.length = doms.length) (h4 : ∀ v ∈ vs, Bd v) {Q : D → List D → Prop} (q : ∀ (us : List Int) (s' : D), Sd s' → us.length = doms.length → (∀ v ∈ us, Bd v) → Q (eRow us) [s', .list (doms.map eDm), eRow vs]) : Wq (f__law_near [s, .list (doms.map eDm), eRow vs]) Q := by
  unfold f__law_near m__law_near
  top_reprB
  rename_i m s1 h5 hm
  have hm : ∃ w : Int, m = .int w ∧ 0 ≤ w ∧ w ≤ 48 := by
    simp only [List.mem_cons, List.not_mem_nil, or_false] at hm
    rcases hm with h | h | h | h | h | h | h <;> exact ⟨_, h, by simp; try omega, by simp; try omega⟩
  obtain ⟨w, rfl, w0, w1⟩ := hm
  top_reprB
  refine W_forR (fun k ρ => ∃ (s2 : D) (us : List Int) (a b : Option (Bool × D)), ρ = [some (true, s2), some (false, .list (doms.map eDm)), some (false, eRow vs), some (true, .list (us.map .int)), a, b] ∧ Sd s2 ∧ us.length = doms.length ∧ ∀ v ∈ us, Bd v) ⟨s1, vs, none, none, rfl, h5, h3, h4⟩ (fun k ρ hk ⟨s2, us, a, b, e, h6, h7, h8⟩ => ?_) fun ρ ⟨s2, us, a, b, e, h6, h7, h8⟩ => ?_
  · subst e
    top_reprB
    rename_i r s3 h9 h10 h11 x hx
    have hx2 := h2 x (List.mem_of_getElem? hx)
    top_reprB
    rename_i v s4 h12 hv
    refine ⟨s4, _, _, _, rfl, h12, by simp [h7], fun n hn => ?_⟩
    rcases List.mem_or_eq_of_mem_set hn with hn | hn
    · exact h8 n hn
    · rw [hn]; exact hx2.2.2 v hv
  · subst e
    top_reprB
    exact q us s2 h6 h7 h8
end K05W

set_option Elab.async false
set_option linter.all false
set_option maxRecDepth 100000
set_option maxHeartbeats 4000000
namespace K05W
open PySem PySem.Spec PyProof.Rows L2 GxR GenX OwnK PD
/-! P5: products, aheads, machines -/
local macro_rules | `(tactic| tb_rel) => `(tactic| simp -dsimp only [q_runD, q_runN, W_seq, q_asg, q_ifS, q_ret, q_drop, W_next, W_break, W_cont, q_for, q_put, q_aug, q_augL, q_mut, q_par, q_bin, q_un, q_app, q_nil, q_cons, q_consIo, q_call, q_callK, q_tab, q_if, q_andT, q_orT, q_notT, q_andV, q_orV, q_notV, q_mB, q_mP, q_noP, q_sl, q_items, q_range, q_chain, q_get2, q_lc, q_dc, q_an, q_su, q_mC, W_some, W_none, W_ite, q_some, q_none, q_ite, W_map, W_bind, bcs_true, bcs_false, bcs_dec, bcs_not, seqQ_nx, seqQ_rt, seqQ_bk, seqQ_ct, forQ_nx, forQ_rt, forQ_bk, forQ_ct, rQ_nx, rQ_rt, rQN_rt, boolQ_bool, intQ_int, strQ_str, dictQ_dict, ownQ_true, borQ_false, list2Q_eq, mFrz_eq, mVar, mOwn, mYes, gSet, gOwn, gTupT, gsCons, gsNil, putBack, wipeR, startR, ioR, backR_eq, backRl, slotD_some, slotD_none, gAdd_ii, gSub_ii, gAddI, gSubI, gLt, gLe, gGt, gGe, gEq_ii, gNe_ii, gInt, gLen_l, gLen_t, gLen_d, gAbs, gMax2, gMin2, keyD_i, keyD_s, gItems_l, gItems_t, gNeg, gListOf, gTupOf, gSl_l, gSl_t, gIs, gIsNot, isN, gMul_s0, gMul_s1, gIxL, gIx_l, gIx_t, gIx_di, gIx_ds, gPow_1018, atI_0, atI_1, atI_2, atI_3, atI_4, atI_5, atI_6, atI_7, gPutL_0, gPutL_1, gPutL_2, gPutL_3, gPutL_4, gPutL_5,
  List.getElem?_cons_zero, List.getElem?_cons_succ, List.set_cons_zero, List.set_cons_succ, List.length_cons, List.length_nil, List.cons_append, List.nil_append, List.replicate, List.map_cons, List.map_nil, Nat.reduceAdd, Nat.reduceSub, Nat.reduceLT, Nat.reduceLeDiff, Nat.zero_add, ↓reduceIte, Nat.lt_add_one, Nat.succ_eq_add_one, List.mem_cons, List.not_mem_nil, or_false, or_true, true_and, and_true, not_true_eq_false, not_false_eq_true, forall_const, decide_true, decide_false, decide_eq_true_eq, reduceCtorEq, ne_eq])
local macro_rules | `(tactic| allgen_close2_more) => `(tactic| first | omega | (simp only [List.length_append, List.length_cons, List.length_nil, List.length_map, List.length_range] at *; omega) | (simp only [len_app, len_one, len_empty] at *; omega))
local macro_rules | `(tactic| tb_start) => `(tactic| first
  | (with_reducible refine w_mul ?hh ?_; (case hh => first | omega | (left; omega) | (right; omega)))
  | (with_reducible refine w_mod ?hh ?_; (case hh => omega); intro _ _)
  | (with_reducible refine w_div ?hh ?hj ?_; (case hh => omega); (case hj => omega))
  | (with_reducible refine wr1 ?hh ?hj ?_; (case hh => allgen_close2_more); (case hj => allgen_close2_more))
  | (with_reducible refine W_atM ?hh ?hj ?_; (case hh => omega); (case hj => allgen_close2_more); intro _ _)
  | (with_reducible refine W_atL ?hh ?hj ?_; (case hh => omega); (case hj => allgen_close2_more); intro _ _)
  | (with_reducible refine w_putM ?hh ?hj ?_; (case hh => omega); (case hj => allgen_close2_more))
  | (with_reducible refine w_app ?hh ?_; (case hh => allgen_close2_more))
  | (with_reducible refine w_addS ?hh ?_; (case hh => allgen_close2_more))
  | (with_reducible refine w_slS ?hh ?_; (case hh => allgen_close2_more))
  | (with_reducible refine w_addL ?hh ?_; (case hh => allgen_close2_more))
  | (with_reducible refine w_addT ?hh ?_; (case hh => allgen_close2_more))
  | (with_reducible refine w_gLst ?hh ?_; (case hh => (simp; done)))
  | (with_reducible refine w_gTup ?hh ?_; (case hh => (simp; done)))
  | (with_reducible refine w_eq (a := ?aa) ?hh ?_; (case hh => with_reducible assumption))
  | (with_reducible refine w_eqS true ?hh ?_; (case hh => decide +kernel))
  | (with_reducible refine w_eqS false ?hh ?_; (case hh => decide +kernel))
  | (with_reducible refine w_lookT ?hh ?_; (case hh => decide +kernel))
  | (with_reducible refine w_lookF ?hh ?_; (case hh => decide +kernel))
  | (with_reducible refine w_lenSet ?hh ?_; (case hh => allgen_close2_more))
  | with_reducible refine w_tcount ?_
  | with_reducible refine w_sum ?_
  | with_reducible refine w_sorted ?_
  | allgen_close_more)
local macro_rules | `(tactic| top_reprB) => `(tactic| repeat' (first | tb_rel | tb_start | intro _ | (with_reducible refine And.intro ?_ ?_)))
local macro_rules | `(tactic| allgen_close_more) => `(tactic| (with_reducible refine mixed_w _ _ ?_; intro _))
local macro_rules | `(tactic| allgen_close_more) => `(tactic| (with_reducible refine take_w ?h1 ?h2 ?h3 ?_; (case h1 => assumption); (case h2 => allgen_close2_more); (case h3 => allgen_close2_more); intro _ _ _ _ _))
local macro_rules | `(tactic| allgen_close_more) => `(tactic| (with_reducible refine pick_w ?h1 ?h2 ?h3 ?_; (case h1 => assumption); (case h2 => allgen_close2_more); (case h3 => allgen_close2_more); intro _ _ _ _))
local macro_rules | `(tactic| allgen_close_more) => `(tactic| (with_reducible refine pickT_w ?h1 ?h2 ?h3 ?_; (case h1 => assumption); (case h2 => allgen_close2_more); (case h3 => allgen_close2_more); intro _ _ _ _))
local macro_rules | `(tactic| allgen_close_more) => `(tactic| (with_reducible refine shuffled_w ?h1 ?h3 ?_; (case h1 => assumption); (case h3 => allgen_close2_more); intro _ _ _ _))
local macro_rules | `(tactic| allgen_close_more) => `(tactic| (with_reducible refine shufM_w ?h1 ?h3 ?_; (case h1 => assumption); (case h3 => allgen_close2_more); intro _ _ _ _))
local macro_rules | `(tactic| allgen_close_more) => `(tactic| (with_reducible refine pickM_w ?h1 ?h2 ?h3 ?_; (case h1 => assumption); (case h2 => allgen_close2_more); (case h3 => allgen_close2_more); intro _ _ _ _))
local macro_rules | `(tactic| allgen_close_more) => `(tactic| (with_reducible refine pickMT_w ?h1 ?h2 ?h3 ?_; (case h1 => assumption); (case h2 => allgen_close2_more); (case h3 => allgen_close2_more); intro _ _ _ _))
inductive Sy where
  | product (a b c : Str)
  | ahead (xs ys : List Str)
  | machine (xs : List Str) (st0 : Int) (mvs : List (Int × Int × Int)) (ends : List Int)
def eMv (m : Int × Int × Int) : D := .tuple [.int m.1, .int m.2.1, .int m.2.2]
def eSy : Sy → D
  | .product a b c => .tuple [.str "product", .str a, .str b, .str c]
  | .ahead xs ys => .tuple [.str "ahead", .tuple (xs.map .str), .tuple (ys.map .str)]
  | .machine xs st0 mvs ends => .tuple [.str "machine", .tuple (xs.map .str), .int st0, .tuple (mvs.map eMv), .tuple (ends.map .int)]
def SyOk (dom : List Str) : Sy → Prop
  | .product a b c => a ∈ dom ∧ b ∈ dom ∧ c ∈ dom
  | .ahead xs ys => xs.length ≤ 12 ∧ ys.length = xs.length ∧ (∀ x ∈ xs, x ∈ dom) ∧ ∀ x ∈ ys, x ∈ dom
  | .machine xs _ mvs ends => xs.length ≤ 12 ∧ mvs.length ≤ 64 ∧ ends.length ≤ 12 ∧ (∀ x ∈ xs, x ∈ dom) ∧ (mvs.map fun m => [m.1, m.2.1]).Nodup
/-- one move -/
def stepM (mvs : List (Int × Int × Int)) (q v : Int) : Option Int := (mvs.find? fun m => decide (m.1 = q) && decide (m.2.1 = v)).map (·.2.2)
def walkM (kvs : List (D × D)) (mvs : List (Int × Int × Int)) : List Str → Int → Option Int
  | [], q => some q
  | x :: r, q => match stepM mvs q (valK kvs x) with
    | some q' => walkM kvs mvs r q'
    | none => none
def oD : Option Int → D
  | some q => .int q
  | none => .none
def holds (kvs : List (D × D)) : Sy → Bool
  | .product a b c => decide (valK kvs a * valK kvs b = valK kvs c)
  | .ahead xs ys => leI (xs.map (valK kvs)) (ys.map (valK kvs))
  | .machine xs st0 mvs ends => match walkM kvs mvs xs st0 with
    | some q => decide (q ∈ ends)
    | none => false
theorem walkM_append {kvs : List (D × D)} {mvs : List (Int × Int × Int)} : ∀ (xs ys : List Str) (q : Int), walkM kvs mvs (xs ++ ys) q = match walkM kvs mvs xs q with | some q' => walkM kvs mvs ys q' | none => none
  | [], ys, q => rfl
  | x :: r, ys, q => by
    simp only [List.cons_append, walkM]
    cases stepM mvs q (valK kvs x) with
    | none => rfl
    | some q' => exact walkM_append r ys q'
abbrev Vl (kvs : List (D × D)) (x : Str) : Prop := dget kvs (.inr x) = some (.int (valK kvs x)) ∧ Bd (valK kvs x)
theorem values_w {kvs : List (D × D)} {xs : List Str} (h2 : ∀ x ∈ xs, Vl kvs x) (h4 : xs.length ≤ 100) {Q : D → List D → Prop} (q : Q (.tuple ((xs.map (valK kvs)).map .int)) [.tuple (xs.map .str), .dict kvs]) : PD.Wq (f_values_at [.tuple (xs.map .str), .dict kvs]) Q := by
  unfold f_values_at m_values_at
  top_reprB
  refine q_lcA xs .str (fun ρ => ρ = [some (false, .tuple (xs.map .str)), some (false, .dict kvs), none]) (fun x => .int (valK kvs x)) (by omega) rfl (fun x h ρ e => ?_) fun ρ e => ?_
  · subst e
    have hg := (h2 x h).1
    top_reprB
    all_goals rfl
  · subst e
    top_reprB
    rw [List.map_map] at q
    exact q
/-! ### the dict of the moves -/
theorem getL_putL (fd : List (List Int × D)) (k k' : List Int) (d : D) : getL (putL fd k d) k' = if k' = k then some d else getL fd k' := by
  have hm : ∀ fd : List (List Int × D), getL (fd.map fun p => if p.1 = k then (p.1, d) else p) k' = if k' = k ∧ (getL fd k).isSome = true then some d else getL fd k' := by
    intro fd
    induction fd with
    | nil => simp [getL]
    | cons p r ih =>
      unfold getL at ih ⊢
      rw [List.map_cons, List.find?_cons, List.find?_cons, List.find?_cons]
      by_cases h1 : p.1 = k
      · subst h1
        by_cases h2 : k' = p.1
        · subst h2; simp
        · have h2' : ¬ p.1 = k' := fun z => h2 z.symm
          simp only [if_true, h2', decide_false, h2, false_and, if_false] at ih ⊢
          exact ih
      · by_cases h2 : p.1 = k'
        · subst h2
          have h3 : ¬ p.1 = k := h1
          simp [h1]
        · simp only [h1, if_false, h2, decide_false]
          exact ih
  unfold putL
  split
  · rename_i h
    rw [hm, h]
    simp
  · rename_i h
    unfold getL at h ⊢
    rw [List.find?_append]
    by_cases h2 : k' = k
    · subst h2
      have h0 : fd.find? (fun p => decide (p.1 = k')) = none := by
        cases q : fd.find? (fun p => decide (p.1 = k')) with
        | none => rfl
        | some _ => rw [q] at h; exact absurd rfl h
      rw [h0]
      simp
    · have h2' : ¬ k = k' := fun z => h2 z.symm
      simp [h2, h2']
theorem putAllL_get : ∀ (ps fd : List (List Int × D)) (k : List Int), (ps.map (·.1)).Nodup → getL (putAllL ps fd) k = match getL ps k with | some d => some d | none => getL fd k
  | [], fd, k, _ => rfl
  | p :: r, fd, k, hn => by
    rw [List.map_cons, List.nodup_cons] at hn
    have ih := putAllL_get r (putL fd p.1 p.2) k hn.2
    show getL (putAllL r (putL fd p.1 p.2)) k = _
    rw [ih, getL_putL]
    have e : getL (p :: r) k = if p.1 = k then some p.2 else getL r k := by
      unfold getL
      rw [List.find?_cons]
      by_cases h : p.1 = k <;> simp [h]
    rw [e]
    by_cases h : p.1 = k
    · subst h
      have h0 : getL r p.1 = none := by
        unfold getL
        rw [List.find?_eq_none.mpr fun x hx => by
          simp only [decide_eq_true_eq]
          exact fun z => hn.1 (List.mem_map.mpr ⟨x, hx, z⟩)]
        rfl
      rw [h0]; simp
    · have h' : ¬ k = p.1 := fun z => h z.symm
      simp [h, h']
def mvP (m : Int × Int × Int) : List Int × D := ([m.1, m.2.1], .int m.2.2)
theorem getL_mv (mvs : List (Int × Int × Int)) (q v : Int) : getL (mvs.map mvP) [q, v] = (stepM mvs q v).map .int := by
  unfold getL stepM
  induction mvs with
  | nil => rfl
  | cons m r ih =>
    rw [List.map_cons, List.find?_cons, List.find?_cons]
    by_cases h1 : m.1 = q <;> by_cases h2 : m.2.1 = v <;> simp [mvP, h1, h2] at ih ⊢ <;> exact ih
theorem moves_get {mvs : List (Int × Int × Int)} (hn : (mvs.map fun m => [m.1, m.2.1]).Nodup) (q v : Int) : getL (putAllL (mvs.map mvP) []) [q, v] = (stepM mvs q v).map .int := by
  rw [putAllL_get _ _ _ (by rw [List.map_map]; exact hn), getL_mv]
  cases stepM mvs q v <;> rfl
theorem getMv {mvs : List (Int × Int × Int)} (hn : (mvs.map fun m => [m.1, m.2.1]).Nodup) {q v : Int} {Q : D → Prop} (hq : ∀ r, stepM mvs q v = some r → Q (.int r)) (h : (stepM mvs q v).isSome = true) : Wp (gIxT (tdOf (putAllL (mvs.map mvP) [])) (.tuple [.int q, .int v])) Q := by
  obtain ⟨r, hr⟩ := Option.isSome_iff_exists.mp h
  exact w_ixTd (k := [q, v]) (by rw [moves_get hn, hr]; rfl) (hq r hr)
section
variable {kvs : List (D × D)} {xs ys ds : List Str} {mvs : List (Int × Int × Int)} {ends : List Int} {st0 : Int} {a b c : Str} {Q : D → List D → Prop}
theorem stand_w (h2 : ∀ x ∈ xs, Vl kvs x) (h4 : xs.length ≤ 12) (hm : mvs.length ≤ 64) (hn : (mvs.map fun m => [m.1, m.2.1]).Nodup) (q : Q (oD (walkM kvs mvs xs st0)) [eSy (.machine xs st0 mvs ends), .dict kvs, .int xs.length]) : PD.Wq (f_stand_of_machine [eSy (.machine xs st0 mvs ends), .dict kvs, .int xs.length]) Q := by
  unfold f_stand_of_machine m_stand_of_machine eSy
  simp only [q_runD]
  tb_rel
  simp only [q_dcTo]
  top_reprB
  refine w_dcT eMv (fun ρ => ρ = [some (false, eSy (.machine xs st0 mvs ends)), some (false, .dict kvs), some (false, .int xs.length), none, none, none, none]) mvP mvs [] _ (by simp; omega) rfl (fun m hmm ρ e => ?_) fun ρ e => ?_
  · subst e
    unfold eMv
    top_reprB
    · rw [cut_hi (by decide)]; rfl
    · rfl
  · subst e
    rw [tdC_map]
    unfold eSy
    top_reprB
    rw [cut_hi (by omega), ← List.map_take, show ((xs.length : Nat) : Int).toNat = xs.length from rfl, List.take_length]
    refine W_forM xs .str (fun pre ρ => ∃ (q : Int) (z : Option (Bool × D)), ρ = [some (false, eSy (.machine xs st0 mvs ends)), some (false, .dict kvs), some (false, .int xs.length), some (true, tdOf (putAllL (mvs.map mvP) [])), some (false, .int q), z, none] ∧ walkM kvs mvs pre st0 = some q) ⟨st0, _, rfl, rfl⟩ (fun pre x post ρ e hρ => ?_) fun ρ hρ => ?_
    · obtain ⟨q0, z, rfl, g1⟩ := hρ
      have hx := h2 x (by rw [e]; simp)
      have hg := hx.1
      have gm := moves_get hn q0 (valK kvs x)
      top_reprB
      refine w_notInTd (k := [q0, valK kvs x]) ?_
      rw [gm]
      have hst : walkM kvs mvs (pre ++ [x]) st0 = stepM mvs q0 (valK kvs x) := by
        rw [walkM_append, g1]
        show walkM kvs mvs [x] q0 = _
        unfold walkM
        cases stepM mvs q0 (valK kvs x) <;> rfl
      cases hs : stepM mvs q0 (valK kvs x) with
      | none =>
        rw [hs] at hst
        rw [Option.map_none, Option.isSome_none]
        top_reprB
        rw [show walkM kvs mvs xs st0 = none by
          rw [e, show pre ++ x :: post = (pre ++ [x]) ++ post by simp, walkM_append, hst]] at q
        exact q
      | some r =>
        rw [hs] at hst gm
        rw [Option.map_some, Option.isSome_some]
        top_reprB
        refine w_ixTd (k := [q0, valK kvs x]) gm ?_
        top_reprB
        exact ⟨r, _, rfl, hst⟩
    · obtain ⟨q0, z, rfl, g1⟩ := hρ
      top_reprB
      rw [g1] at q
      exact q
theorem holds_machine_w (h2 : ∀ x ∈ xs, Vl kvs x) (h4 : xs.length ≤ 12) (hm : mvs.length ≤ 64) (hn : (mvs.map fun m => [m.1, m.2.1]).Nodup) (q : Q (.bool (holds kvs (.machine xs st0 mvs ends))) [eSy (.machine xs st0 mvs ends), .dict kvs]) : PD.Wq (f_holds_machine [eSy (.machine xs st0 mvs ends), .dict kvs]) Q := by
  have hh : holds kvs (.machine xs st0 mvs ends) = match walkM kvs mvs xs st0 with | some q => decide (q ∈ ends) | none => false := rfl
  unfold f_holds_machine m_holds_machine
  unfold eSy
  top_reprB
  rw [List.length_map]
  refine stand_w h2 h4 hm hn ?_
  cases hw : walkM kvs mvs xs st0 with
  | none =>
    rw [hw] at hh
    unfold oD eSy
    top_reprB
    rw [hh] at q
    exact q
  | some r =>
    rw [hw] at hh
    unfold oD eSy
    top_reprB
    refine w_inIT ?_
    top_reprB
    rw [hh] at q
    exact q
theorem holds_product_w (ha : Vl kvs a) (hb : Vl kvs b) (hc : Vl kvs c) (q : Q (.bool (holds kvs (.product a b c))) [eSy (.product a b c), .dict kvs]) : PD.Wq (f_holds_product [eSy (.product a b c), .dict kvs]) Q := by
  have g1 := ha.1
  have g2 := hb.1
  have g3 := hc.1
  have b1 := ha.2
  unfold Bd at b1
  unfold f_holds_product m_holds_product eSy
  top_reprB
  exact q
theorem w_leT {ns ms : List Int} {Q : D → Prop} (q : Q (.bool (leI ns ms))) : Wp (gLe (.tuple (ns.map .int)) (.tuple (ms.map .int))) Q := by
  refine ⟨_, ?_, q⟩
  show (match gLe.allInts (ns.map .int), gLe.allInts (ms.map .int) with | some ns, some ms => some (PyData.bool (leI ns ms)) | _, _ => none) = _
  rw [show gLe.allInts (ns.map .int) = some ns from allInts_map ns, show gLe.allInts (ms.map .int) = some ms from allInts_map ms]
theorem holds_ahead_w (h2 : ∀ x ∈ xs, Vl kvs x) (h3 : ∀ x ∈ ys, Vl kvs x) (h4 : xs.length ≤ 12) (h5 : ys.length = xs.length) (q : Q (.bool (holds kvs (.ahead xs ys))) [eSy (.ahead xs ys), .dict kvs]) : PD.Wq (f_holds_ahead [eSy (.ahead xs ys), .dict kvs]) Q := by
  unfold f_holds_ahead m_holds_ahead eSy
  top_reprB
  refine values_w h2 (by omega) ?_
  top_reprB
  refine values_w h3 (by omega) ?_
  top_reprB
  refine w_leT ?_
  top_reprB
  exact q
end
theorem SyOk.vl {kvs : List (D × D)} {dom : List Str} (hk : AtOk kvs dom) {xs : List Str} (h : ∀ x ∈ xs, x ∈ dom) : ∀ x ∈ xs, Vl kvs x := fun x hx => hk x (h x hx)
theorem saying_holds_w {kvs : List (D × D)} {dom : List Str} {S : Sy} (hS : SyOk dom S) (hk : AtOk kvs dom) {Q : D → List D → Prop} (q : Q (.bool (holds kvs S)) [eSy S, .dict kvs]) : PD.Wq (f_saying_holds [eSy S, .dict kvs]) Q := by
  unfold f_saying_holds m_saying_holds
  cases S with
  | product a b c =>
    unfold eSy
    top_reprB
    refine holds_product_w (hk a hS.1) (hk b hS.2.1) (hk c hS.2.2) ?_
    top_reprB
    exact q
  | ahead xs ys =>
    unfold eSy
    top_reprB
    refine holds_ahead_w (SyOk.vl hk hS.2.2.1) (SyOk.vl hk hS.2.2.2) hS.1 hS.2.1 ?_
    top_reprB
    exact q
  | machine xs st0 mvs ends =>
    unfold eSy
    top_reprB
    refine holds_machine_w (SyOk.vl hk hS.2.2.2.1) hS.1 hS.2.1 hS.2.2.2.2 ?_
    top_reprB
    exact q
theorem walk_w {kvs : List (D × D)} {xs : List Str} {mvs : List (Int × Int × Int)} {ends : List Int} {st0 : Int} {Q : D → List D → Prop} (h2 : ∀ x ∈ xs, Vl kvs x) (h4 : xs.length ≤ 12) (hm : mvs.length ≤ 64) (q : Q (oD (walkM kvs mvs xs st0)) [eSy (.machine xs st0 mvs ends), .dict kvs]) : PD.Wq (f__law_walk [eSy (.machine xs st0 mvs ends), .dict kvs]) Q := by
  unfold f__law_walk m__law_walk eSy
  top_reprB
  refine W_forM xs .str (fun pre ρ => ∃ (q : Int) (a b : Option (Bool × D)), ρ = [some (false, eSy (.machine xs st0 mvs ends)), some (false, .dict kvs), some (false, .int q), a, b, none] ∧ walkM kvs mvs pre st0 = some q) ⟨st0, _, _, rfl, rfl⟩ (fun pre x post ρ e hρ => ?_) fun ρ hρ => ?_
  · obtain ⟨q0, a, b, rfl, g1⟩ := hρ
    have hx := h2 x (by rw [e]; simp)
    have hg := hx.1
    unfold eSy
    top_reprB
    refine q_lcM mvs eMv (fun ρ => ρ = [some (false, eSy (.machine xs st0 mvs ends)), some (false, .dict kvs), some (false, .int q0), some (false, .str x), b, none]) (fun m => decide (m.1 = q0) && decide (m.2.1 = valK kvs x)) (fun m => .int m.2.2) (by omega) rfl (fun m hmm ρ e => ?_) fun ρ e => ?_
    · subst e
      unfold eMv eSy
      top_reprB
      all_goals first | rfl | (rename_i h; simp [h]; done)
    · subst e
      unfold eSy
      top_reprB
      rw [show (fun m : Int × Int × Int => PyData.int m.2.2) = PyData.int ∘ (fun m => m.2.2) from rfl, ← List.map_map]
      have hL : stepM mvs q0 (valK kvs x) = ((mvs.filter fun m => decide (m.1 = q0) && decide (m.2.1 = valK kvs x)).map fun m => m.2.2).head? := by
        rw [List.head?_map, List.head?_filter]; rfl
      generalize (mvs.filter fun m => decide (m.1 = q0) && decide (m.2.1 = valK kvs x)).map (fun m => m.2.2) = ls at *
      have hst : walkM kvs mvs (pre ++ [x]) st0 = stepM mvs q0 (valK kvs x) := by
        rw [walkM_append, g1]
        show walkM kvs mvs [x] q0 = _
        unfold walkM
        cases stepM mvs q0 (valK kvs x) <;> rfl
      rw [hL] at hst
      refine w_eqNilI ?_
      cases ls with
      | nil =>
        simp only [List.isEmpty_nil]
        top_reprB
        rw [show walkM kvs mvs xs st0 = none by
          rw [e, show pre ++ x :: post = (pre ++ [x]) ++ post by simp, walkM_append, hst]; rfl] at q
        exact q
      | cons r l =>
        simp only [List.isEmpty_cons]
        top_reprB
        exact ⟨r, _, _, rfl, hst⟩
  · obtain ⟨q0, a, b, rfl, g1⟩ := hρ
    unfold eSy
    top_reprB
    rw [g1] at q
    exact q
theorem leI_at {ns ms : List Int} (h : ns.length = ms.length) {k : Nat} (hk : k < ns.length) : Ob.lexAt (fun j => decide (ns.getD j 0 = ms.getD j 0)) (fun j => decide (ns.getD j 0 ≤ ms.getD j 0)) (decide (ns.length ≤ ms.length)) k (ns.length - k) = if ns.getD k 0 = ms.getD k 0 then Ob.lexAt (fun j => decide (ns.getD j 0 = ms.getD j 0)) (fun j => decide (ns.getD j 0 ≤ ms.getD j 0)) (decide (ns.length ≤ ms.length)) (k + 1) (ns.length - (k + 1)) else decide (ns.getD k 0 ≤ ms.getD k 0) := by
  rw [show ns.length - k = (ns.length - (k + 1)) + 1 by omega, Ob.lexAt_succ]
  by_cases e : ns.getD k 0 = ms.getD k 0 <;> simp [e]
theorem law_holds_w {kvs : List (D × D)} {dom : List Str} {S : Sy} (hS : SyOk dom S) (hk : AtOk kvs dom) {Q : D → List D → Prop} (q : Q (.bool (holds kvs S)) [eSy S, .dict kvs]) : PD.Wq (f__law_holds [eSy S, .dict kvs]) Q := by
  unfold f__law_holds m__law_holds
  cases S with
  | product a b c =>
    have g1 := (hk a hS.1).1
    have g2 := (hk b hS.2.1).1
    have g3 := (hk c hS.2.2).1
    have b1 := (hk a hS.1).2
    unfold Bd at b1
    unfold eSy
    top_reprB
    exact q
  | ahead xs ys =>
    have h2 := SyOk.vl hk hS.2.2.1
    have h3 := SyOk.vl hk hS.2.2.2
    have h4 := hS.1
    have h5 := hS.2.1
    have hh : holds kvs (.ahead xs ys) = leI (xs.map (valK kvs)) (ys.map (valK kvs)) := rfl
    unfold eSy
    top_reprB
    refine W_forR (fun k ρ => ∃ (a b c : Option (Bool × D)), ρ = [some (false, eSy (.ahead xs ys)), some (false, .dict kvs), none, a, b, c] ∧ holds kvs (.ahead xs ys) = Ob.lexAt (fun j => decide ((xs.map (valK kvs)).getD j 0 = (ys.map (valK kvs)).getD j 0)) (fun j => decide ((xs.map (valK kvs)).getD j 0 ≤ (ys.map (valK kvs)).getD j 0)) (decide ((xs.map (valK kvs)).length ≤ (ys.map (valK kvs)).length)) k ((xs.map (valK kvs)).length - k)) ⟨_, _, _, rfl, by rw [hh]; unfold leI; rw [List.length_map, List.length_map, h5, Nat.min_self]; rfl⟩ (fun k ρ hkk hρ => ?_) fun ρ hρ => ?_
    · obtain ⟨a, b, c, rfl, g1⟩ := hρ
      have hkx : k < xs.length := by simpa using hkk
      rw [leI_at (by rw [List.length_map, List.length_map, h5]) (by rw [List.length_map]; exact hkx)] at g1
      unfold eSy
      top_reprB
      rename_i x hx
      have hgx := (h2 x (List.mem_of_getElem? hx)).1
      top_reprB
      rename_i y hy
      have hgy := (h3 y (List.mem_of_getElem? hy)).1
      rw [Int.zero_add, Int.toNat_natCast] at hx hy
      have ex : (xs.map (valK kvs)).getD k 0 = valK kvs x := by rw [List.getD_eq_getElem?_getD, List.getElem?_map, hx]; rfl
      have ey : (ys.map (valK kvs)).getD k 0 = valK kvs y := by rw [List.getD_eq_getElem?_getD, List.getElem?_map, hy]; rfl
      rw [ex, ey] at g1
      top_reprB
      · rename_i hne
        rw [if_pos hne] at g1
        exact ⟨_, _, _, rfl, g1⟩
      · rename_i hne
        rw [if_neg hne] at g1
        rw [g1] at q
        rw [show decide (valK kvs x < valK kvs y) = decide (valK kvs x ≤ valK kvs y) from decide_eq_decide.mpr (by omega)]
        exact q
    · obtain ⟨a, b, c, rfl, g1⟩ := hρ
      have g2 : holds kvs (.ahead xs ys) = true := by
        rw [g1]
        have e0 : (xs.map (valK kvs)).length - (((xs.map PyData.str).length : Nat) : Int).toNat = 0 := by simp
        rw [e0, Ob.lexAt_zero, decide_eq_true_eq, List.length_map, List.length_map, h5]
        exact Nat.le_refl _
      rw [g2] at q
      unfold eSy
      top_reprB
      exact q
  | machine xs st0 mvs ends =>
    have hh : holds kvs (.machine xs st0 mvs ends) = match walkM kvs mvs xs st0 with | some q => decide (q ∈ ends) | none => false := rfl
    unfold eSy
    top_reprB
    refine walk_w (SyOk.vl hk hS.2.2.2.1) hS.1 hS.2.1 ?_
    cases hw : walkM kvs mvs xs st0 with
    | none =>
      rw [hw] at hh
      unfold oD eSy
      top_reprB
      rw [hh] at q
      exact q
    | some r =>
      rw [hw] at hh
      unfold oD eSy
      top_reprB
      refine w_inIT ?_
      top_reprB
      rw [hh] at q
      exact q
end K05W

set_option Elab.async false
set_option linter.all false
set_option maxRecDepth 100000
set_option maxHeartbeats 4000000
namespace K05W
open PySem PySem.Spec PyProof.Rows L2 GxR GenX OwnK PD
/-! P6: models, keeps -/
local macro_rules | `(tactic| tb_rel) => `(tactic| simp -dsimp only [q_runD, q_runN, W_seq, q_asg, q_ifS, q_ret, q_drop, W_next, W_break, W_cont, q_for, q_put, q_aug, q_augL, q_mut, q_par, q_bin, q_un, q_app, q_nil, q_cons, q_consIo, q_call, q_callK, q_tab, q_if, q_andT, q_orT, q_notT, q_andV, q_orV, q_notV, q_mB, q_mP, q_noP, q_sl, q_items, q_range, q_chain, q_get2, q_lc, q_dc, q_an, q_su, q_mC, W_some, W_none, W_ite, q_some, q_none, q_ite, W_map, W_bind, bcs_true, bcs_false, bcs_dec, bcs_not, seqQ_nx, seqQ_rt, seqQ_bk, seqQ_ct, forQ_nx, forQ_rt, forQ_bk, forQ_ct, rQ_nx, rQ_rt, rQN_rt, boolQ_bool, intQ_int, strQ_str, dictQ_dict, ownQ_true, borQ_false, list2Q_eq, mFrz_eq, mVar, mOwn, mYes, gSet, gOwn, gTupT, gsCons, gsNil, putBack, wipeR, startR, ioR, backR_eq, backRl, slotD_some, slotD_none, gAdd_ii, gSub_ii, gAddI, gSubI, gLt, gLe, gGt, gGe, gEq_ii, gNe_ii, gInt, gLen_l, gLen_t, gLen_d, gAbs, gMax2, gMin2, keyD_i, keyD_s, gItems_l, gItems_t, gNeg, gListOf, gTupOf, gSl_l, gSl_t, gIs, gIsNot, isN, gMul_s0, gMul_s1, gIxL, gIx_l, gIx_t, gIx_di, gIx_ds, gPow_1018, atI_0, atI_1, atI_2, atI_3, atI_4, atI_5, atI_6, atI_7, gPutL_0, gPutL_1, gPutL_2, gPutL_3, gPutL_4, gPutL_5,
  List.getElem?_cons_zero, List.getElem?_cons_succ, List.set_cons_zero, List.set_cons_succ, List.length_cons, List.length_nil, List.cons_append, List.nil_append, List.replicate, List.map_cons, List.map_nil, Nat.reduceAdd, Nat.reduceSub, Nat.reduceLT, Nat.reduceLeDiff, Nat.zero_add, ↓reduceIte, Nat.lt_add_one, Nat.succ_eq_add_one, List.mem_cons, List.not_mem_nil, or_false, or_true, true_and, and_true, not_true_eq_false, not_false_eq_true, forall_const, decide_true, decide_false, decide_eq_true_eq, reduceCtorEq, ne_eq])
local macro_rules | `(tactic| allgen_close2_more) => `(tactic| first | omega | (simp only [List.length_append, List.length_cons, List.length_nil, List.length_map, List.length_range] at *; omega) | (simp only [len_app, len_one, len_empty] at *; omega))
local macro_rules | `(tactic| tb_start) => `(tactic| first
  | (with_reducible refine w_mul ?hh ?_; (case hh => first | omega | (left; omega) | (right; omega)))
  | (with_reducible refine w_mod ?hh ?_; (case hh => omega); intro _ _)
  | (with_reducible refine w_div ?hh ?hj ?_; (case hh => omega); (case hj => omega))
  | (with_reducible refine wr1 ?hh ?hj ?_; (case hh => allgen_close2_more); (case hj => allgen_close2_more))
  | (with_reducible refine W_atM ?hh ?hj ?_; (case hh => omega); (case hj => allgen_close2_more); intro _ _)
  | (with_reducible refine W_atL ?hh ?hj ?_; (case hh => omega); (case hj => allgen_close2_more); intro _ _)
  | (with_reducible refine w_putM ?hh ?hj ?_; (case hh => omega); (case hj => allgen_close2_more))
  | (with_reducible refine w_app ?hh ?_; (case hh => allgen_close2_more))
  | (with_reducible refine w_addS ?hh ?_; (case hh => allgen_close2_more))
  | (with_reducible refine w_slS ?hh ?_; (case hh => allgen_close2_more))
  | (with_reducible refine w_addL ?hh ?_; (case hh => allgen_close2_more))
  | (with_reducible refine w_addT ?hh ?_; (case hh => allgen_close2_more))
  | (with_reducible refine w_gLst ?hh ?_; (case hh => (simp; done)))
  | (with_reducible refine w_gTup ?hh ?_; (case hh => (simp; done)))
  | (with_reducible refine w_eq (a := ?aa) ?hh ?_; (case hh => with_reducible assumption))
  | (with_reducible refine w_eqS true ?hh ?_; (case hh => decide +kernel))
  | (with_reducible refine w_eqS false ?hh ?_; (case hh => decide +kernel))
  | (with_reducible refine w_lookT ?hh ?_; (case hh => decide +kernel))
  | (with_reducible refine w_lookF ?hh ?_; (case hh => decide +kernel))
  | (with_reducible refine w_lenSet ?hh ?_; (case hh => allgen_close2_more))
  | with_reducible refine w_tcount ?_
  | with_reducible refine w_sum ?_
  | with_reducible refine w_sorted ?_
  | allgen_close_more)
local macro_rules | `(tactic| top_reprB) => `(tactic| repeat' (first | tb_rel | tb_start | intro _ | (with_reducible refine And.intro ?_ ?_)))
local macro_rules | `(tactic| allgen_close_more) => `(tactic| (with_reducible refine mixed_w _ _ ?_; intro _))
local macro_rules | `(tactic| allgen_close_more) => `(tactic| (with_reducible refine take_w ?h1 ?h2 ?h3 ?_; (case h1 => assumption); (case h2 => allgen_close2_more); (case h3 => allgen_close2_more); intro _ _ _ _ _))
local macro_rules | `(tactic| allgen_close_more) => `(tactic| (with_reducible refine pick_w ?h1 ?h2 ?h3 ?_; (case h1 => assumption); (case h2 => allgen_close2_more); (case h3 => allgen_close2_more); intro _ _ _ _))
local macro_rules | `(tactic| allgen_close_more) => `(tactic| (with_reducible refine pickT_w ?h1 ?h2 ?h3 ?_; (case h1 => assumption); (case h2 => allgen_close2_more); (case h3 => allgen_close2_more); intro _ _ _ _))
local macro_rules | `(tactic| allgen_close_more) => `(tactic| (with_reducible refine shuffled_w ?h1 ?h3 ?_; (case h1 => assumption); (case h3 => allgen_close2_more); intro _ _ _ _))
local macro_rules | `(tactic| allgen_close_more) => `(tactic| (with_reducible refine shufM_w ?h1 ?h3 ?_; (case h1 => assumption); (case h3 => allgen_close2_more); intro _ _ _ _))
local macro_rules | `(tactic| allgen_close_more) => `(tactic| (with_reducible refine pickM_w ?h1 ?h2 ?h3 ?_; (case h1 => assumption); (case h2 => allgen_close2_more); (case h3 => allgen_close2_more); intro _ _ _ _))
local macro_rules | `(tactic| allgen_close_more) => `(tactic| (with_reducible refine pickMT_w ?h1 ?h2 ?h3 ?_; (case h1 => assumption); (case h2 => allgen_close2_more); (case h3 => allgen_close2_more); intro _ _ _ _))
/-- all pairs put -/
def putAll (ps : List (Key × D)) : List (D × D) := ps.foldl (fun kvs p => gPut.dput kvs p.1 p.2) []
theorem putAll_snoc (ps : List (Key × D)) (p : Key × D) : putAll (ps ++ [p]) = gPut.dput (putAll ps) p.1 p.2 := by
  unfold putAll; rw [List.foldl_append]; rfl
theorem putAll_len (ps : List (Key × D)) : (putAll ps).length ≤ ps.length := by
  have : ∀ (ps : List (Key × D)) (kvs : List (D × D)), (ps.foldl (fun kvs p => gPut.dput kvs p.1 p.2) kvs).length ≤ kvs.length + ps.length := by
    intro ps
    induction ps with
    | nil => intro kvs; exact Nat.le_refl _
    | cons p r ih => intro kvs; exact Nat.le_trans (ih _) (by have := dput_len kvs p.1 p.2; simp; omega)
  exact Nat.le_trans (this ps []) (by simp)
theorem isT_putAll (ps : List (Key × D)) : isT (putAll ps) = false := by
  have : ∀ (ps : List (Key × D)) (kvs : List (D × D)), isT kvs = false → isT (ps.foldl (fun kvs p => gPut.dput kvs p.1 p.2) kvs) = false := by
    intro ps
    induction ps with
    | nil => intro kvs h; exact h
    | cons p r ih => intro kvs h; exact ih _ (isT_dput h)
  exact this ps [] rfl
theorem putAll_get {ps : List (Key × D)} (hn : (ps.map (·.1)).Nodup) {k : Key} {d : D} (h : (k, d) ∈ ps) : dget (putAll ps) k = some d := by
  have : ∀ (ps : List (Key × D)) (kvs : List (D × D)), (ps.map (·.1)).Nodup → (((k, d) ∈ ps → dget (ps.foldl (fun kvs p => gPut.dput kvs p.1 p.2) kvs) k = some d) ∧ (k ∉ ps.map (·.1) → dget (ps.foldl (fun kvs p => gPut.dput kvs p.1 p.2) kvs) k = dget kvs k)) := by
    intro ps
    induction ps with
    | nil => intro kvs _; exact ⟨fun h => (nomatch h), fun _ => rfl⟩
    | cons p r ih =>
      intro kvs hn
      rw [List.map_cons, List.nodup_cons] at hn
      have ⟨i1, i2⟩ := ih (gPut.dput kvs p.1 p.2) hn.2
      refine ⟨fun h => ?_, fun h => ?_⟩
      · rcases List.mem_cons.mp h with h | h
        · subst h
          rw [List.foldl_cons, i2 hn.1, dget_dput, if_pos rfl]
        · exact i1 h
      · rw [List.map_cons, List.mem_cons, not_or] at h
        rw [List.foldl_cons, i2 h.2, dget_dput, if_neg h.1]
  exact (this ps [] hn).1 h
theorem q_dcM {g : D → Rho → Option Rho} {mk mv : M D} {vs : List Nat} {α : Type} {K : List (D × D) → Rho → Prop} (xs : List α) (e : α → D) (J : Rho → Prop) (p : α → Key × D) {ρ : Rho} (hz : xs.length < 16777216) (h0 : J ρ)
    (hs : ∀ x ∈ xs, ∀ ρ, J ρ → Wp (g (e x) ρ) fun ρ1 => PD.Wq (mk ρ1) fun kd ρ3 => PD.Wq (mv ρ3) fun y ρ4 => keyD kd = some (p x).1 ∧ y = (p x).2 ∧ J (wipeR ρ4 vs))
    (hq : ∀ ρ, J ρ → K (putAll (xs.map p)) ρ) : PD.Wq (dcL g mYes mk mv vs (xs.map e) [] ρ) K := by
  refine q_dcK (fun k acc ρ => acc = putAll ((xs.take k).map p) ∧ J ρ) (by simpa using hz) ⟨rfl, h0⟩ (fun k d acc ρ q ⟨e1, e4⟩ => ?_) (fun acc ρ _ ⟨e1, e4⟩ => by
    rw [e1, List.length_map, List.take_length]; exact hq ρ e4)
  rw [List.getElem?_map] at q
  cases hx : xs[k]? with
  | none => rw [hx] at q; cases q
  | some x =>
    rw [hx] at q
    cases q
    obtain ⟨hk, hx'⟩ := List.getElem?_eq_some_iff.mp hx
    refine (hs x (List.mem_of_getElem? hx) ρ e4).mono fun ρ1 h => q_some.mpr (bcs_true.mpr (h.mono fun kd ρ3 h => h.mono fun y ρ4 ⟨h1, h2, h3⟩ => ⟨_, h1, ?_, h3⟩))
    rw [show xs.take (k + 1) = xs.take k ++ [x] by rw [← hx', List.take_append_getElem hk], List.map_append, List.map_singleton, putAll_snoc, e1, h2]
def eFs (p : Str × Sy) : D := .tuple [.str p.1, eSy p.2]
def eSf (p : (Str × Sy) × Int) : D := .tuple [.str p.1.1, eSy p.1.2, .int p.2]
def eMod (doms : List (Str × List Int)) (firm : List (Str × Sy)) (soft : List ((Str × Sy) × Int)) : D := .tuple [.tuple (doms.map eDm), .tuple (firm.map eFs), .tuple (soft.map eSf)]
def pSy (p : Str × Sy) : Key × D := (.inr p.1, eSy p.2)
local macro_rules | `(tactic| allgen_close_more) => `(tactic| ((first | with_reducible refine id_wp ?_ | with_reducible refine id_wq ?_); simp -dsimp only [eDm, eRow, eMod, eFs, eSf]))
section
variable {doms : List (Str × List Int)} {firm : List (Str × Sy)} {soft : List ((Str × Sy) × Int)} {vs : List Int} {Q : D → List D → Prop}
theorem filling_dict_w (h1 : vs.length = doms.length) (h2 : doms.length ≤ 100) (q : Q (.dict (kvsOf ((doms.map (·.1)).zip vs))) [eMod doms firm soft, eRow vs]) : PD.Wq (f_filling_dict [eMod doms firm soft, eRow vs]) Q := by
  unfold f_filling_dict m_filling_dict
  top_reprB
  refine q_dcK (fun k acc ρ => acc = kvsOf (((doms.map (·.1)).zip vs).take k) ∧ ρ = [some (false, eMod doms firm soft), some (false, eRow vs), none]) (by rw [rangeD_len]; simp; omega) ⟨by rw [List.take_zero]; rfl, rfl⟩ (fun k d acc ρ hd ⟨e1, e2⟩ => ?_) fun acc ρ _ ⟨e1, e2⟩ => ?_
  · subst e2
    have hk : k < vs.length := by
      have := (List.getElem?_eq_some_iff.mp hd).1
      rw [rangeD_len] at this
      simpa using this
    rw [rangeD_get (by simpa using hk)] at hd
    cases hd
    top_reprB
    · rename_i x hx v hv
      rw [Int.zero_add, Int.toNat_natCast] at hv hx
      have hz : ((doms.map (·.1)).zip vs)[k]? = some (x.1, v) := List.getElem?_zip_eq_some.mpr ⟨by rw [List.getElem?_map, hx]; rfl, hv⟩
      obtain ⟨hk2, hz2⟩ := List.getElem?_eq_some_iff.mp hz
      rw [show ((doms.map (·.1)).zip vs).take (k + 1) = ((doms.map (·.1)).zip vs).take k ++ [(x.1, v)] by rw [← hz2, List.take_append_getElem hk2], kvsOf_snoc, e1]
  · subst e2
    top_reprB
    rw [rangeD_len] at e1
    rw [e1, List.take_of_length_le (by simp [h1])]
    exact q
theorem said_in_w (h1 : firm.length ≤ 100) (h2 : soft.length ≤ 100) (q : Q (.dict (putAll ((firm ++ soft.map (·.1)).map pSy))) [eMod doms firm soft]) : PD.Wq (f_said_in [eMod doms firm soft]) Q := by
  unfold f_said_in m_said_in
  top_reprB
  refine q_dcM firm eFs (fun ρ => ρ = [some (false, eMod doms firm soft), none, none, none, none]) pSy (by omega) rfl (fun x hx ρ e => ?_) fun ρ e => ?_
  · subst e
    top_reprB
    all_goals rfl
  · subst e
    top_reprB
    refine W_forM soft eSf (fun pre ρ => ∃ a b c, ρ = [some (false, eMod doms firm soft), some (true, .dict (putAll ((firm ++ pre.map (·.1)).map pSy))), a, b, c]) ⟨none, none, none, by rw [List.map_nil, List.append_nil]; rfl⟩ (fun pre x post ρ e ⟨a, b, c, e2⟩ => ?_) fun ρ ⟨a, b, c, e2⟩ => ?_
    · subst e2
      have hl := putAll_len ((firm ++ pre.map (·.1)).map pSy)
      have hp : pre.length ≤ 100 := by rw [e, List.length_append] at h2; omega
      simp only [List.length_map, List.length_append] at hl
      top_reprB
      have hT := isT_putAll ((firm ++ pre.map (·.1)).map pSy)
      rw [gPutDs (by omega)]
      top_reprB
      rw [show putAll ((firm ++ (pre ++ [x]).map (·.1)).map pSy) = gPut.dput (putAll ((firm ++ pre.map (·.1)).map pSy)) (Sum.inr x.1.1) (eSy x.1.2) by
        rw [List.map_append (l₁ := pre), ← List.append_assoc, List.map_append (l₂ := List.map (fun x => x.1) [x]), List.map_singleton, List.map_singleton, putAll_snoc]
        rfl]
      exact ⟨_, _, _, rfl⟩
    · subst e2
      top_reprB
      exact q
theorem pSy_get {ps : List (Str × Sy)} (hn : (ps.map (·.1)).Nodup) {x : Str} {S : Sy} (h : (x, S) ∈ ps) : dget (putAll (ps.map pSy)) (.inr x) = some (eSy S) := by
  refine putAll_get ?_ (List.mem_map.mpr ⟨(x, S), h, rfl⟩)
  rw [List.map_map]
  rw [show ((·.1) ∘ pSy : Str × Sy → Key) = Sum.inr ∘ (·.1) from rfl, ← List.map_map]
  exact List.pairwise_map.mpr (hn.imp fun h e => h (Sum.inr.inj e))
/-- the values of a world -/
abbrev wk (doms : List (Str × List Int)) (vs : List Int) : List (D × D) := kvsOf ((doms.map (·.1)).zip vs)
theorem wk_ok (h1 : vs.length = doms.length) (hv : ∀ v ∈ vs, Bd v) : AtOk (wk doms vs) (doms.map (·.1)) := by
  have := kvsOf_get ((doms.map (·.1)).zip vs) (fun p hp => hv p.2 (List.of_mem_zip hp).2)
  rwa [List.map_fst_zip (by simp [h1])] at this
theorem keeps_saying_w (h1 : vs.length = doms.length) (h2 : doms.length ≤ 100) (hv : ∀ v ∈ vs, Bd v) (h3 : (firm ++ soft.map (·.1)).length ≤ 100) (hn : ((firm ++ soft.map (·.1)).map (·.1)).Nodup) {x : Str} {S : Sy} (hx : (x, S) ∈ firm ++ soft.map (·.1)) (hS : SyOk (doms.map (·.1)) S) (q : Q (.bool (holds (wk doms vs) S)) [eMod doms firm soft, .str x, eRow vs]) : PD.Wq (f_keeps_saying [eMod doms firm soft, .str x, eRow vs]) Q := by
  rw [List.length_append, List.length_map] at h3
  have hg := pSy_get hn hx
  unfold f_keeps_saying m_keeps_saying
  tb_rel
  refine said_in_w (by omega) (by omega) ?_
  tb_rel
  refine ⟨_, hg, ?_⟩
  tb_rel
  refine filling_dict_w h1 h2 ?_
  tb_rel
  refine saying_holds_w hS (wk_ok h1 hv) ?_
  tb_rel
  exact q
theorem keeps_w (h1 : vs.length = doms.length) (h2 : doms.length ≤ 100) (hv : ∀ v ∈ vs, Bd v) (hS : ∀ p ∈ firm, SyOk (doms.map (·.1)) p.2) (q : Q (.bool (firm.all fun p => holds (wk doms vs) p.2)) [eMod doms firm soft, eRow vs]) : PD.Wq (f_keeps [eMod doms firm soft, eRow vs]) Q := by
  unfold f_keeps m_keeps
  tb_rel
  refine filling_dict_w h1 h2 ?_
  top_reprB
  refine q_all firm eFs (fun ρ => ρ = [some (false, eMod doms firm soft), some (false, eRow vs), some (false, .dict (wk doms vs)), none, none]) (fun p => holds (wk doms vs) p.2) rfl (fun p hp ρ e => ?_) fun ρ e => ?_
  · subst e
    top_reprB
    refine saying_holds_w (hS p hp) (wk_ok h1 hv) ?_
    top_reprB
    all_goals rfl
  · subst e
    top_reprB
    exact q
end
end K05W

set_option Elab.async false
set_option linter.all false
set_option maxRecDepth 100000
set_option maxHeartbeats 4000000
namespace K05W
open PySem PySem.Spec PyProof.Rows L2 GxR GenX OwnK PD
/-! P7: what is held -/
local macro_rules | `(tactic| tb_rel) => `(tactic| simp -dsimp only [q_runD, q_runN, W_seq, q_asg, q_ifS, q_ret, q_drop, W_next, W_break, W_cont, q_for, q_put, q_aug, q_augL, q_mut, q_par, q_bin, q_un, q_app, q_nil, q_cons, q_consIo, q_call, q_callK, q_tab, q_if, q_andT, q_orT, q_notT, q_andV, q_orV, q_notV, q_mB, q_mP, q_noP, q_sl, q_items, q_range, q_chain, q_get2, q_lc, q_dc, q_an, q_su, q_mC, W_some, W_none, W_ite, q_some, q_none, q_ite, W_map, W_bind, bcs_true, bcs_false, bcs_dec, bcs_not, seqQ_nx, seqQ_rt, seqQ_bk, seqQ_ct, forQ_nx, forQ_rt, forQ_bk, forQ_ct, rQ_nx, rQ_rt, rQN_rt, boolQ_bool, intQ_int, strQ_str, dictQ_dict, ownQ_true, borQ_false, list2Q_eq, mFrz_eq, mVar, mOwn, mYes, gSet, gOwn, gTupT, gsCons, gsNil, putBack, wipeR, startR, ioR, backR_eq, backRl, slotD_some, slotD_none, gAdd_ii, gSub_ii, gAddI, gSubI, gLt, gLe, gGt, gGe, gEq_ii, gNe_ii, gInt, gLen_l, gLen_t, gLen_d, gAbs, gMax2, gMin2, keyD_i, keyD_s, gItems_l, gItems_t, gNeg, gListOf, gTupOf, gSl_l, gSl_t, gIs, gIsNot, isN, gMul_s0, gMul_s1, gIxL, gIx_l, gIx_t, gIx_di, gIx_ds, gPow_1018, atI_0, atI_1, atI_2, atI_3, atI_4, atI_5, atI_6, atI_7, gPutL_0, gPutL_1, gPutL_2, gPutL_3, gPutL_4, gPutL_5,
  List.getElem?_cons_zero, List.getElem?_cons_succ, List.set_cons_zero, List.set_cons_succ, List.length_cons, List.length_nil, List.cons_append, List.nil_append, List.replicate, List.map_cons, List.map_nil, Nat.reduceAdd, Nat.reduceSub, Nat.reduceLT, Nat.reduceLeDiff, Nat.zero_add, ↓reduceIte, Nat.lt_add_one, Nat.succ_eq_add_one, List.mem_cons, List.not_mem_nil, or_false, or_true, true_and, and_true, not_true_eq_false, not_false_eq_true, forall_const, decide_true, decide_false, decide_eq_true_eq, reduceCtorEq, ne_eq])
local macro_rules | `(tactic| allgen_close2_more) => `(tactic| first | omega | (simp only [List.length_append, List.length_cons, List.length_nil, List.length_map, List.length_range] at *; omega) | (simp only [len_app, len_one, len_empty] at *; omega))
local macro_rules | `(tactic| tb_start) => `(tactic| first
  | (with_reducible refine w_mul ?hh ?_; (case hh => first | omega | (left; omega) | (right; omega)))
  | (with_reducible refine w_mod ?hh ?_; (case hh => omega); intro _ _)
  | (with_reducible refine w_div ?hh ?hj ?_; (case hh => omega); (case hj => omega))
  | (with_reducible refine wr1 ?hh ?hj ?_; (case hh => allgen_close2_more); (case hj => allgen_close2_more))
  | (with_reducible refine W_atM ?hh ?hj ?_; (case hh => omega); (case hj => allgen_close2_more); intro _ _)
  | (with_reducible refine W_atL ?hh ?hj ?_; (case hh => omega); (case hj => allgen_close2_more); intro _ _)
  | (with_reducible refine w_putM ?hh ?hj ?_; (case hh => omega); (case hj => allgen_close2_more))
  | (with_reducible refine w_app ?hh ?_; (case hh => allgen_close2_more))
  | (with_reducible refine w_addS ?hh ?_; (case hh => allgen_close2_more))
  | (with_reducible refine w_slS ?hh ?_; (case hh => allgen_close2_more))
  | (with_reducible refine w_addL ?hh ?_; (case hh => allgen_close2_more))
  | (with_reducible refine w_addT ?hh ?_; (case hh => allgen_close2_more))
  | (with_reducible refine w_gLst ?hh ?_; (case hh => (simp; done)))
  | (with_reducible refine w_gTup ?hh ?_; (case hh => (simp; done)))
  | (with_reducible refine w_eq (a := ?aa) ?hh ?_; (case hh => with_reducible assumption))
  | (with_reducible refine w_eqS true ?hh ?_; (case hh => decide +kernel))
  | (with_reducible refine w_eqS false ?hh ?_; (case hh => decide +kernel))
  | (with_reducible refine w_lookT ?hh ?_; (case hh => decide +kernel))
  | (with_reducible refine w_lookF ?hh ?_; (case hh => decide +kernel))
  | (with_reducible refine w_lenSet ?hh ?_; (case hh => allgen_close2_more))
  | with_reducible refine w_tcount ?_
  | with_reducible refine w_sum ?_
  | with_reducible refine w_sorted ?_
  | allgen_close_more)
local macro_rules | `(tactic| top_reprB) => `(tactic| repeat' (first | tb_rel | tb_start | intro _ | (with_reducible refine And.intro ?_ ?_)))
local macro_rules | `(tactic| allgen_close_more) => `(tactic| (with_reducible refine mixed_w _ _ ?_; intro _))
local macro_rules | `(tactic| allgen_close_more) => `(tactic| (with_reducible refine take_w ?h1 ?h2 ?h3 ?_; (case h1 => assumption); (case h2 => allgen_close2_more); (case h3 => allgen_close2_more); intro _ _ _ _ _))
local macro_rules | `(tactic| allgen_close_more) => `(tactic| (with_reducible refine pick_w ?h1 ?h2 ?h3 ?_; (case h1 => assumption); (case h2 => allgen_close2_more); (case h3 => allgen_close2_more); intro _ _ _ _))
local macro_rules | `(tactic| allgen_close_more) => `(tactic| (with_reducible refine pickT_w ?h1 ?h2 ?h3 ?_; (case h1 => assumption); (case h2 => allgen_close2_more); (case h3 => allgen_close2_more); intro _ _ _ _))
local macro_rules | `(tactic| allgen_close_more) => `(tactic| (with_reducible refine shuffled_w ?h1 ?h3 ?_; (case h1 => assumption); (case h3 => allgen_close2_more); intro _ _ _ _))
local macro_rules | `(tactic| allgen_close_more) => `(tactic| (with_reducible refine shufM_w ?h1 ?h3 ?_; (case h1 => assumption); (case h3 => allgen_close2_more); intro _ _ _ _))
local macro_rules | `(tactic| allgen_close_more) => `(tactic| (with_reducible refine pickM_w ?h1 ?h2 ?h3 ?_; (case h1 => assumption); (case h2 => allgen_close2_more); (case h3 => allgen_close2_more); intro _ _ _ _))
local macro_rules | `(tactic| allgen_close_more) => `(tactic| (with_reducible refine pickMT_w ?h1 ?h2 ?h3 ?_; (case h1 => assumption); (case h2 => allgen_close2_more); (case h3 => allgen_close2_more); intro _ _ _ _))
local macro_rules | `(tactic| allgen_close_more) => `(tactic| ((first | with_reducible refine id_wp ?_ | with_reducible refine id_wq ?_); simp -dsimp only [eDm, eRow, eFs, eSf]))
theorem is_due_w {b : Bool} {Q : D → List D → Prop} (q : Q (.bool true) [.bool b, .bool b]) : PD.Wq (f__law_is_due [.bool b, .bool b]) Q := by
  unfold f__law_is_due m__law_is_due
  cases b <;> top_reprB <;> exact q
local macro_rules | `(tactic| allgen_close_more) => `(tactic| with_reducible refine is_due_w ?_)
local macro_rules | `(tactic| allgen_close_more) => `(tactic| (with_reducible refine law_holds_w (dom := ?dd) ?h1 ?h2 ?_; (case h1 => assumption); (case h2 => assumption)))
local macro_rules | `(tactic| allgen_close_more) => `(tactic| simp -dsimp only [← List.map_append])
local macro_rules | `(tactic| allgen_close_more) => `(tactic| (with_reducible refine world_w ?h1 ?h2 ?_; (case h1 => assumption); (case h2 => omega)))
theorem bcs_mk {b : Bool} {p q : Prop} (h1 : b = true → p) (h2 : b = false → q) : bcs b p q := ⟨h1, h2⟩
local macro_rules | `(tactic| allgen_close_more) => `(tactic| with_reducible refine bcs_mk ?_ ?_)
theorem whole_step {α : Type} {firm soft : List α} {p : α → Bool} {k : Nat} {x : α} (h : (firm ++ soft)[k]? = some x) : (firm.take (k + 1)).all p = ((firm.take k).all p && (p x || decide (firm.length ≤ k))) := by
  by_cases hk : k < firm.length
  · rw [List.getElem?_append_left hk, List.getElem?_eq_getElem hk] at h
    rw [← List.take_append_getElem hk, List.all_append, Option.some.inj h, show decide (firm.length ≤ k) = false by simp; omega]
    simp
  · rw [List.take_of_length_le (by omega), List.take_of_length_le (by omega), show decide (firm.length ≤ k) = true by simp; omega]
    simp
theorem are_held_w {s : D} {doms : List (Str × List Int)} {firm soft : List (Str × Sy)} {rows : List (List Int)} (hs : Sd s) (hd : doms.length ≤ 24) (hl1 : firm.length ≤ 5) (hl2 : soft.length ≤ 5)
    (hn : ((firm ++ soft).map (·.1)).Nodup) (hS : ∀ p ∈ firm ++ soft, SyOk (doms.map (·.1)) p.2) (hr : ∀ r ∈ rows, r.length = doms.length ∧ ∀ v ∈ r, Bd v) {Q : D → List D → Prop}
    (q : ∀ s', Sd s' → Q (.bool true) [s', .list (doms.map eDm), .list (firm.map eFs), .list (soft.map eFs), .list (rows.map eRow)]) :
    PD.Wq (f__law_are_held [s, .list (doms.map eDm), .list (firm.map eFs), .list (soft.map eFs), .list (rows.map eRow)]) Q := by
  unfold f__law_are_held m__law_are_held
  top_reprB
  refine q_lcE soft eFs (fun ρ => ∃ s', Sd s' ∧ ρ = [some (true, s'), some (false, .list (doms.map eDm)), some (false, .list (firm.map eFs)), some (false, .list (soft.map eFs)), some (false, .list (rows.map eRow)), none, none, none, none, none, none, none, none, none, none, none]) PyData.int (fun _ _ => True) (by omega) ⟨_, hs, rfl⟩ (fun x hx ρ ⟨s', h2, e⟩ => ?_) (fun ps ρ hl _ ⟨s', h2, e⟩ => ?_)
  · subst e
    top_reprB
    · exact ⟨_, rfl⟩
    · exact ⟨_, by assumption, rfl⟩
  subst e
  top_reprB
  refine q_lcE (List.range ((soft.map eFs).length : Int).toNat) (fun i => .int (0 + (i : Nat))) (fun ρ => ρ = [some (true, s'), some (false, .list (doms.map eDm)), some (false, .list (firm.map eFs)), some (false, .list (soft.map eFs)), some (false, .list (rows.map eRow)), some (false, .list (ps.map .int)), none, none, none, none, none, none, none, none, none, none]) eSf (fun i b => soft[i]? = some b.1) (by simp; omega) rfl (fun i hi ρ e => ?_) (fun soft2 ρ hl2 hP e => ?_)
  · subst e
    have hi : i < soft.length := by simpa using hi
    top_reprB
    rename_i x hx p hp
    rw [Int.zero_add, Int.toNat_natCast] at hx hp
    · exact ⟨(x, p), rfl, hx⟩
  subst e
  have h12 : soft2.map (·.1) = soft := by
    simp only [List.length_range, List.length_map, Int.toNat_natCast] at hl2
    apply List.ext_getElem?
    intro i
    by_cases hi : i < soft.length
    · rw [List.getElem?_map, List.getElem?_eq_getElem (show i < soft2.length by omega)]
      refine (hP i i _ ?_ (List.getElem?_eq_getElem (show i < soft2.length by omega))).symm
      simp [hi]
    · rw [List.getElem?_eq_none (by simp; omega), List.getElem?_eq_none (by omega)]
  top_reprB
  have hM : PyData.tuple [PyData.tuple (doms.map eDm), PyData.tuple (firm.map eFs), PyData.tuple (soft2.map eSf)] = eMod doms firm soft2 := rfl
  refine W_forM rows eRow (fun pre ρ => ∃ a b c d e f g h i, ρ = [some (true, s'), some (false, .list (doms.map eDm)), some (false, .list (firm.map eFs)), some (false, .list (soft.map eFs)), some (false, .list (rows.map eRow)), some (false, .list (ps.map .int)), some (false, eMod doms firm soft2), a, b, c, d, e, f, g, h, i]) ⟨_, _, _, _, _, _, _, _, _, rfl⟩ (fun pre r post ρ e0 ⟨a, b, c, d, e, f, g, h, i, e2⟩ => ?_) fun ρ ⟨a, b, c, d, e, f, g, h, i, e2⟩ => ?_
  · subst e2
    have hrr := hr r (by rw [e0]; simp)
    have hr1 := hrr.1
    have hW := wk_ok (doms := doms) hr1 hrr.2
    top_reprB
    refine W_forR (fun k ρ => ∃ d e f g h i, ρ = [some (true, s'), some (false, .list (doms.map eDm)), some (false, .list (firm.map eFs)), some (false, .list (soft.map eFs)), some (false, .list (rows.map eRow)), some (false, .list (ps.map .int)), some (false, eMod doms firm soft2), some (false, eRow r), some (false, .dict (wk doms r)), some (false, .bool ((firm.take k).all fun p => holds (wk doms r) p.2)), d, e, f, g, h, i]) ⟨_, _, _, _, _, _, rfl⟩ (fun k ρ hk ⟨d, e, f, g, h, i, e2⟩ => ?_) fun ρ ⟨d, e, f, g, h, i, e2⟩ => ?_
    · subst e2
      have hk : k < (firm ++ soft).length := by simp only [List.length_map] at hk; simp; omega
      top_reprB
      rename_i x hx
      rw [Int.zero_add, Int.toNat_natCast] at hx
      have hxm := List.mem_of_getElem? hx
      have hxS := hS x hxm
      top_reprB
      refine keeps_saying_w hr1 (by omega) hrr.2 (by rw [h12]; simp; omega) (by rw [h12]; exact hn) (by rw [h12]; exact hxm) hxS ?_
      top_reprB
      all_goals rw [whole_step hx]
      · rename_i w1 w2
        rw [w1, w2]
        exact ⟨_, _, _, _, _, _, rfl⟩
      · rename_i w1 w2
        rw [w1, w2, List.length_map, Int.zero_add, show decide ((firm.length : Int) ≤ (k : Int)) = decide (firm.length ≤ k) by rw [decide_eq_decide]; omega]
        exact ⟨_, _, _, _, _, _, rfl⟩
      · rename_i w1
        rw [w1]
        exact ⟨_, _, _, _, _, _, rfl⟩
    · subst e2
      have hall : (firm.take ((firm.map eFs).length + (soft.map eFs).length : Int).toNat) = firm := List.take_of_length_le (by simp; omega)
      rw [hall]
      have hSf : ∀ p ∈ firm, SyOk (doms.map (·.1)) p.2 := fun p hp => hS p (List.mem_append_left _ hp)
      top_reprB
      refine keeps_w hr1 (by omega) hrr.2 hSf ?_
      top_reprB
      refine keeps_w hr1 (by omega) hrr.2 hSf ?_
      top_reprB
      · rename_i h0 x hx
        have hxm : x ∈ firm ++ soft := List.mem_append_right _ (List.mem_of_getElem? hx)
        have hxS := hS x hxm
        refine keeps_saying_w hr1 (by omega) hrr.2 (by rw [h12]; simp; omega) (by rw [h12]; exact hn) (by rw [h12]; exact hxm) hxS ?_
        top_reprB
        rename_i x2 hx2
        rw [hx] at hx2
        cases hx2
        top_reprB
        exact ⟨_, _, _, _, _, _, _, _, _, rfl⟩
      · exact ⟨_, _, _, _, _, _, _, _, _, rfl⟩
  · subst e2
    top_reprB
    exact q s' h2
end K05W

set_option Elab.async false
set_option linter.all false
set_option maxRecDepth 100000
set_option maxHeartbeats 4000000
namespace K05W
open PySem PySem.Spec PyProof.Rows L2 GxR GenX OwnK PD
/-! P9: by turns -/
local macro_rules | `(tactic| tb_rel) => `(tactic| simp -dsimp only [q_runD, q_runN, W_seq, q_asg, q_ifS, q_ret, q_drop, W_next, W_break, W_cont, q_for, q_put, q_aug, q_augL, q_mut, q_par, q_bin, q_un, q_app, q_nil, q_cons, q_consIo, q_call, q_callK, q_tab, q_if, q_andT, q_orT, q_notT, q_andV, q_orV, q_notV, q_mB, q_mP, q_noP, q_sl, q_items, q_range, q_chain, q_get2, q_lc, q_dc, q_an, q_su, q_mC, W_some, W_none, W_ite, q_some, q_none, q_ite, W_map, W_bind, bcs_true, bcs_false, bcs_dec, bcs_not, seqQ_nx, seqQ_rt, seqQ_bk, seqQ_ct, forQ_nx, forQ_rt, forQ_bk, forQ_ct, rQ_nx, rQ_rt, rQN_rt, boolQ_bool, intQ_int, strQ_str, dictQ_dict, ownQ_true, borQ_false, list2Q_eq, mFrz_eq, mVar, mOwn, mYes, gSet, gOwn, gTupT, gsCons, gsNil, putBack, wipeR, startR, ioR, backR_eq, backRl, slotD_some, slotD_none, gAdd_ii, gSub_ii, gAddI, gSubI, gLt, gLe, gGt, gGe, gEq_ii, gNe_ii, gInt, gLen_l, gLen_t, gLen_d, gAbs, gMax2, gMin2, keyD_i, keyD_s, gItems_l, gItems_t, gNeg, gListOf, gTupOf, gSl_l, gSl_t, gIs, gIsNot, isN, gMul_s0, gMul_s1, gIxL, gIx_l, gIx_t, gIx_di, gIx_ds, gPow_1018, atI_0, atI_1, atI_2, atI_3, atI_4, atI_5, atI_6, atI_7, gPutL_0, gPutL_1, gPutL_2, gPutL_3, gPutL_4, gPutL_5,
  List.getElem?_cons_zero, List.getElem?_cons_succ, List.set_cons_zero, List.set_cons_succ, List.length_cons, List.length_nil, List.cons_append, List.nil_append, List.replicate, List.map_cons, List.map_nil, Nat.reduceAdd, Nat.reduceSub, Nat.reduceLT, Nat.reduceLeDiff, Nat.zero_add, ↓reduceIte, Nat.lt_add_one, Nat.succ_eq_add_one, List.mem_cons, List.not_mem_nil, or_false, or_true, true_and, and_true, not_true_eq_false, not_false_eq_true, forall_const, decide_true, decide_false, decide_eq_true_eq, reduceCtorEq, ne_eq])
local macro_rules | `(tactic| allgen_close2_more) => `(tactic| first | omega | (simp only [List.length_append, List.length_cons, List.length_nil, List.length_map, List.length_range] at *; omega) | (simp only [len_app, len_one, len_empty] at *; omega))
local macro_rules | `(tactic| tb_start) => `(tactic| first
  | (with_reducible refine w_mul ?hh ?_; (case hh => first | omega | (left; omega) | (right; omega)))
  | (with_reducible refine w_mod ?hh ?_; (case hh => omega); intro _ _)
  | (with_reducible refine w_div ?hh ?hj ?_; (case hh => omega); (case hj => omega))
  | (with_reducible refine wr1 ?hh ?hj ?_; (case hh => allgen_close2_more); (case hj => allgen_close2_more))
  | (with_reducible refine W_atM ?hh ?hj ?_; (case hh => omega); (case hj => allgen_close2_more); intro _ _)
  | (with_reducible refine W_atL ?hh ?hj ?_; (case hh => omega); (case hj => allgen_close2_more); intro _ _)
  | (with_reducible refine w_putM ?hh ?hj ?_; (case hh => omega); (case hj => allgen_close2_more))
  | (with_reducible refine w_app ?hh ?_; (case hh => allgen_close2_more))
  | (with_reducible refine w_addS ?hh ?_; (case hh => allgen_close2_more))
  | (with_reducible refine w_slS ?hh ?_; (case hh => allgen_close2_more))
  | (with_reducible refine w_addL ?hh ?_; (case hh => allgen_close2_more))
  | (with_reducible refine w_addT ?hh ?_; (case hh => allgen_close2_more))
  | (with_reducible refine w_gLst ?hh ?_; (case hh => (simp; done)))
  | (with_reducible refine w_gTup ?hh ?_; (case hh => (simp; done)))
  | (with_reducible refine w_eq (a := ?aa) ?hh ?_; (case hh => with_reducible assumption))
  | (with_reducible refine w_eqS true ?hh ?_; (case hh => decide +kernel))
  | (with_reducible refine w_eqS false ?hh ?_; (case hh => decide +kernel))
  | (with_reducible refine w_lookT ?hh ?_; (case hh => decide +kernel))
  | (with_reducible refine w_lookF ?hh ?_; (case hh => decide +kernel))
  | (with_reducible refine w_lenSet ?hh ?_; (case hh => allgen_close2_more))
  | with_reducible refine w_tcount ?_
  | with_reducible refine w_sum ?_
  | with_reducible refine w_sorted ?_
  | allgen_close_more)
local macro_rules | `(tactic| top_reprB) => `(tactic| repeat' (first | tb_rel | tb_start | intro _ | (with_reducible refine And.intro ?_ ?_)))
local macro_rules | `(tactic| allgen_close_more) => `(tactic| (with_reducible refine mixed_w _ _ ?_; intro _))
local macro_rules | `(tactic| allgen_close_more) => `(tactic| (with_reducible refine take_w ?h1 ?h2 ?h3 ?_; (case h1 => assumption); (case h2 => allgen_close2_more); (case h3 => allgen_close2_more); intro _ _ _ _ _))
local macro_rules | `(tactic| allgen_close_more) => `(tactic| (with_reducible refine pick_w ?h1 ?h2 ?h3 ?_; (case h1 => assumption); (case h2 => allgen_close2_more); (case h3 => allgen_close2_more); intro _ _ _ _))
local macro_rules | `(tactic| allgen_close_more) => `(tactic| (with_reducible refine pickT_w ?h1 ?h2 ?h3 ?_; (case h1 => assumption); (case h2 => allgen_close2_more); (case h3 => allgen_close2_more); intro _ _ _ _))
local macro_rules | `(tactic| allgen_close_more) => `(tactic| (with_reducible refine shuffled_w ?h1 ?h3 ?_; (case h1 => assumption); (case h3 => allgen_close2_more); intro _ _ _ _))
local macro_rules | `(tactic| allgen_close_more) => `(tactic| (with_reducible refine shufM_w ?h1 ?h3 ?_; (case h1 => assumption); (case h3 => allgen_close2_more); intro _ _ _ _))
local macro_rules | `(tactic| allgen_close_more) => `(tactic| (with_reducible refine pickM_w ?h1 ?h2 ?h3 ?_; (case h1 => assumption); (case h2 => allgen_close2_more); (case h3 => allgen_close2_more); intro _ _ _ _))
local macro_rules | `(tactic| allgen_close_more) => `(tactic| (with_reducible refine pickMT_w ?h1 ?h2 ?h3 ?_; (case h1 => assumption); (case h2 => allgen_close2_more); (case h3 => allgen_close2_more); intro _ _ _ _))
local macro_rules | `(tactic| allgen_close_more) => `(tactic| ((first | with_reducible refine id_wp ?_ | with_reducible refine id_wq ?_); simp -dsimp only [eDm, eFs]))
theorem by_turns_w {s : D} {doms : List (Str × List Int)} {made firm soft : List (Str × Sy)} {rows : List (List Int)} {base : List Int} (hs : Sd s) (hd0 : 0 < doms.length) (hd : doms.length ≤ 24) (h2 : ∀ d ∈ doms, 0 < d.2.length ∧ d.2.length ≤ 12 ∧ ∀ v ∈ d.2, Bd v)
    (hm : made.length = 5) (hmn : (made.map (·.1)).Nodup) (hmS : ∀ p ∈ made, SyOk (doms.map (·.1)) p.2)
    (hl1 : firm.length ≤ 5) (hl2 : soft.length ≤ 5) (hn : ((firm ++ soft).map (·.1)).Nodup) (hS : ∀ p ∈ firm ++ soft, SyOk (doms.map (·.1)) p.2) (hrl : rows.length ≤ 16000) (hr : ∀ r ∈ rows, r.length = doms.length ∧ ∀ v ∈ r, Bd v) (hb : base.length = doms.length ∧ ∀ v ∈ base, Bd v)
    {Q : D → List D → Prop} (q : ∀ es, es.length = 7 → Q (.bool true) es) :
    PD.Wq (f__law_by_turns [s, .list (doms.map eDm), .list (made.map eFs), .list (firm.map eFs), .list (soft.map eFs), .list (rows.map eRow), eRow base]) Q := by
  unfold f__law_by_turns m__law_by_turns
  top_reprB
  rw [cut_hi (by decide), ← List.map_take, show [eRow base] = [base].map eRow from rfl]
  refine w_addL (by simp; omega) ?_
  rw [← List.map_append]
  top_reprB
  refine near_w hs hd0 hd h2 hb.1 hb.2 fun us s1 h3 h4 h5 => ?_
  top_reprB
  refine w_addL (by simp; omega) ?_
  rw [show eRow base :: (rows.take (Int.toNat 2)).map eRow ++ [eRow us] = ([base] ++ rows.take (Int.toNat 2) ++ [us]).map eRow by simp]
  have hfew : ∀ r ∈ [base] ++ rows.take (Int.toNat 2) ++ [us], r.length = doms.length ∧ ∀ v ∈ r, Bd v := fun r hr' => by
    rcases List.mem_append.mp hr' with h | h
    · rcases List.mem_append.mp h with h | h
      · rw [List.mem_singleton.mp h]; exact hb
      · exact hr r (List.mem_of_mem_take h)
    · rw [List.mem_singleton.mp h]; exact ⟨h4, h5⟩
  generalize [base] ++ rows.take (Int.toNat 2) ++ [us] = few at *
  top_reprB
  refine q_lcE (List.range ((made.map eFs).length : Int).toNat) (fun i => .int (0 + (i : Nat))) (fun ρ => ρ = [some (true, s1), some (false, .list (doms.map eDm)), some (false, .list (made.map eFs)), some (false, .list (firm.map eFs)), some (false, .list (soft.map eFs)), some (false, .list (rows.map eRow)), some (false, eRow base), some (false, .list (few.map eRow)), none, none]) eFs (fun i p => (∃ m, made[i]? = some m ∧ p.1 = m.1) ∧ ∃ m ∈ made, p.2 = m.2) (by simp; omega) rfl (fun i hi ρ e => ?_) (fun tn ρ hl hP e => ?_)
  · subst e
    have hi : i < made.length := by simpa using hi
    top_reprB
    rename_i m hm1
    rw [Int.zero_add, Int.toNat_natCast] at hm1
    by_cases h0 : i = 0
    · refine W_atL (by omega) (by omega) fun m2 hm2 => ?_
      top_reprB
      exact ⟨(m.1, m2.2), rfl, ⟨m, hm1, rfl⟩, m2, List.mem_of_getElem? hm2, rfl⟩
    · refine W_atM (by omega) (by omega) fun m2 hm2 => ?_
      top_reprB
      exact ⟨(m.1, m2.2), rfl, ⟨m, hm1, rfl⟩, m2, List.mem_of_getElem? hm2, rfl⟩
  subst e
  have hl : tn.length = made.length := by simpa using hl
  have hnm : tn.map (·.1) = made.map (·.1) := by
    apply List.ext_getElem?
    intro i
    by_cases hi : i < made.length
    · obtain ⟨⟨m, h6, h7⟩, _⟩ := hP i i tn[i] (by simp [hi]) (List.getElem?_eq_getElem (by omega))
      rw [List.getElem?_map, List.getElem?_map, h6, List.getElem?_eq_getElem (show i < tn.length by omega)]
      simp [h7]
    · rw [List.getElem?_eq_none (by simp; omega), List.getElem?_eq_none (by simp; omega)]
  have hSy : ∀ p ∈ tn, SyOk (doms.map (·.1)) p.2 := fun p hp => by
    obtain ⟨i, hi, e⟩ := List.mem_iff_getElem.mp hp
    obtain ⟨_, m, h6, h7⟩ := hP i i p (List.getElem?_range (by simp; omega)) (by rw [List.getElem?_eq_getElem hi, e])
    rw [h7]; exact hmS m h6
  top_reprB
  refine are_held_w h3 hd hl1 hl2 hn hS hr fun s2 h6 => ?_
  top_reprB
  rw [cut_hi (by decide), cut_lo (by decide), ← List.map_take, ← List.map_drop]
  refine are_held_w (firm := tn.drop (Int.toNat 1)) (soft := tn.take (Int.toNat 1)) h6 hd (by simp; omega) (by rw [List.length_take]; omega) ?_ ?_ hfew fun s3 h7 => ?_
  · have hp : (tn.drop (Int.toNat 1) ++ tn.take (Int.toNat 1)).Perm tn := (List.perm_append_comm).trans (by rw [List.take_append_drop])
    rw [(hp.map (·.1)).nodup_iff, hnm]
    exact hmn
  · intro p hp
    rcases List.mem_append.mp hp with hp | hp
    · exact hSy p (List.mem_of_mem_drop hp)
    · exact hSy p (List.mem_of_mem_take hp)
  top_reprB
  refine are_held_w h7 hd hl1 hl2 hn hS hfew fun s4 h8 => ?_
  top_reprB
  exact q _ rfl
end K05W

set_option Elab.async false
set_option linter.all false
set_option maxRecDepth 100000
set_option maxHeartbeats 4000000
namespace K05W
open PySem PySem.Spec PyProof.Rows L2 GxR GenX OwnK PD
/-! P8: the draws -/
local macro_rules | `(tactic| tb_rel) => `(tactic| simp -dsimp only [q_runD, q_runN, W_seq, q_asg, q_ifS, q_ret, q_drop, W_next, W_break, W_cont, q_for, q_put, q_aug, q_augL, q_mut, q_par, q_bin, q_un, q_app, q_nil, q_cons, q_consIo, q_call, q_callK, q_tab, q_if, q_andT, q_orT, q_notT, q_andV, q_orV, q_notV, q_mB, q_mP, q_noP, q_sl, q_items, q_range, q_chain, q_get2, q_lc, q_dc, q_an, q_su, q_mC, W_some, W_none, W_ite, q_some, q_none, q_ite, W_map, W_bind, bcs_true, bcs_false, bcs_dec, bcs_not, seqQ_nx, seqQ_rt, seqQ_bk, seqQ_ct, forQ_nx, forQ_rt, forQ_bk, forQ_ct, rQ_nx, rQ_rt, rQN_rt, boolQ_bool, intQ_int, strQ_str, dictQ_dict, ownQ_true, borQ_false, list2Q_eq, mFrz_eq, mVar, mOwn, mYes, gSet, gOwn, gTupT, gsCons, gsNil, putBack, wipeR, startR, ioR, backR_eq, backRl, slotD_some, slotD_none, gAdd_ii, gSub_ii, gAddI, gSubI, gLt, gLe, gGt, gGe, gEq_ii, gNe_ii, gInt, gLen_l, gLen_t, gLen_d, gAbs, gMax2, gMin2, keyD_i, keyD_s, gItems_l, gItems_t, gNeg, gListOf, gTupOf, gSl_l, gSl_t, gIs, gIsNot, isN, gMul_s0, gMul_s1, gIxL, gIx_l, gIx_t, gIx_di, gIx_ds, gPow_1018, atI_0, atI_1, atI_2, atI_3, atI_4, atI_5, atI_6, atI_7, gPutL_0, gPutL_1, gPutL_2, gPutL_3, gPutL_4, gPutL_5,
  List.getElem?_cons_zero, List.getElem?_cons_succ, List.set_cons_zero, List.set_cons_succ, List.length_cons, List.length_nil, List.cons_append, List.nil_append, List.replicate, List.map_cons, List.map_nil, Nat.reduceAdd, Nat.reduceSub, Nat.reduceLT, Nat.reduceLeDiff, Nat.zero_add, ↓reduceIte, Nat.lt_add_one, Nat.succ_eq_add_one, List.mem_cons, List.not_mem_nil, or_false, or_true, true_and, and_true, not_true_eq_false, not_false_eq_true, forall_const, decide_true, decide_false, decide_eq_true_eq, reduceCtorEq, ne_eq])
local macro_rules | `(tactic| allgen_close2_more) => `(tactic| first | omega | (simp only [List.length_append, List.length_cons, List.length_nil, List.length_map, List.length_range] at *; omega) | (simp only [len_app, len_one, len_empty] at *; omega))
local macro_rules | `(tactic| tb_start) => `(tactic| first
  | (with_reducible refine w_mul ?hh ?_; (case hh => first | omega | (left; omega) | (right; omega)))
  | (with_reducible refine w_mod ?hh ?_; (case hh => omega); intro _ _)
  | (with_reducible refine w_div ?hh ?hj ?_; (case hh => omega); (case hj => omega))
  | (with_reducible refine wr1 ?hh ?hj ?_; (case hh => allgen_close2_more); (case hj => allgen_close2_more))
  | (with_reducible refine W_atM ?hh ?hj ?_; (case hh => omega); (case hj => allgen_close2_more); intro _ _)
  | (with_reducible refine W_atL ?hh ?hj ?_; (case hh => omega); (case hj => allgen_close2_more); intro _ _)
  | (with_reducible refine w_putM ?hh ?hj ?_; (case hh => omega); (case hj => allgen_close2_more))
  | (with_reducible refine w_app ?hh ?_; (case hh => allgen_close2_more))
  | (with_reducible refine w_addS ?hh ?_; (case hh => allgen_close2_more))
  | (with_reducible refine w_slS ?hh ?_; (case hh => allgen_close2_more))
  | (with_reducible refine w_addL ?hh ?_; (case hh => allgen_close2_more))
  | (with_reducible refine w_addT ?hh ?_; (case hh => allgen_close2_more))
  | (with_reducible refine w_gLst ?hh ?_; (case hh => (simp; done)))
  | (with_reducible refine w_gTup ?hh ?_; (case hh => (simp; done)))
  | (with_reducible refine w_eq (a := ?aa) ?hh ?_; (case hh => with_reducible assumption))
  | (with_reducible refine w_eqS true ?hh ?_; (case hh => decide +kernel))
  | (with_reducible refine w_eqS false ?hh ?_; (case hh => decide +kernel))
  | (with_reducible refine w_lookT ?hh ?_; (case hh => decide +kernel))
  | (with_reducible refine w_lookF ?hh ?_; (case hh => decide +kernel))
  | (with_reducible refine w_lenSet ?hh ?_; (case hh => allgen_close2_more))
  | with_reducible refine w_tcount ?_
  | with_reducible refine w_sum ?_
  | with_reducible refine w_sorted ?_
  | allgen_close_more)
local macro_rules | `(tactic| top_reprB) => `(tactic| repeat' (first | tb_rel | tb_start | intro _ | (with_reducible refine And.intro ?_ ?_)))
local macro_rules | `(tactic| allgen_close_more) => `(tactic| (with_reducible refine mixed_w _ _ ?_; intro _))
local macro_rules | `(tactic| allgen_close_more) => `(tactic| (with_reducible refine take_w ?h1 ?h2 ?h3 ?_; (case h1 => assumption); (case h2 => allgen_close2_more); (case h3 => allgen_close2_more); intro _ _ _ _ _))
local macro_rules | `(tactic| allgen_close_more) => `(tactic| (with_reducible refine pick_w ?h1 ?h2 ?h3 ?_; (case h1 => assumption); (case h2 => allgen_close2_more); (case h3 => allgen_close2_more); intro _ _ _ _))
local macro_rules | `(tactic| allgen_close_more) => `(tactic| (with_reducible refine pickT_w ?h1 ?h2 ?h3 ?_; (case h1 => assumption); (case h2 => allgen_close2_more); (case h3 => allgen_close2_more); intro _ _ _ _))
local macro_rules | `(tactic| allgen_close_more) => `(tactic| (with_reducible refine shuffled_w ?h1 ?h3 ?_; (case h1 => assumption); (case h3 => allgen_close2_more); intro _ _ _ _))
local macro_rules | `(tactic| allgen_close_more) => `(tactic| (with_reducible refine shufM_w ?h1 ?h3 ?_; (case h1 => assumption); (case h3 => allgen_close2_more); intro _ _ _ _))
local macro_rules | `(tactic| allgen_close_more) => `(tactic| (with_reducible refine pickM_w ?h1 ?h2 ?h3 ?_; (case h1 => assumption); (case h2 => allgen_close2_more); (case h3 => allgen_close2_more); intro _ _ _ _))
local macro_rules | `(tactic| allgen_close_more) => `(tactic| (with_reducible refine pickMT_w ?h1 ?h2 ?h3 ?_; (case h1 => assumption); (case h2 => allgen_close2_more); (case h3 => allgen_close2_more); intro _ _ _ _))
local macro_rules | `(tactic| allgen_close_more) => `(tactic| ((first | with_reducible refine id_wp ?_ | with_reducible refine id_wq ?_); simp -dsimp only [eDm, eFs]))
theorem pickI_w (P : Int → Prop) {s : D} {ds : List D} (hs : Sd s) (h0 : 0 < ds.length) (h1 : ds.length < 1073741824) (hi : allI P ds) {Q : D → List D → Prop} (q : ∀ (w : Int) (s' : D), Sd s' → P w → Q (.int w) [s', .list ds]) : PD.Wq (f__law_pick [s, .list ds]) Q :=
  pick_w hs h0 h1 fun r s' h2 h3 => by
    obtain ⟨w, rfl, hw⟩ := allI_mem hi r h3
    exact q w s' h2 hw
theorem pickN_w {s : D} {ds : List D} (hs : Sd s) (h0 : 0 < ds.length) (h1 : ds.length < 1073741824) (hi : allI (fun _ => True) ds) {Q : D → List D → Prop} (q : ∀ (w : Int) (s' : D), Sd s' → PyData.int w ∈ ds → Q (.int w) [s', .list ds]) : PD.Wq (f__law_pick [s, .list ds]) Q :=
  pick_w hs h0 h1 fun r s' h2 h3 => by
    obtain ⟨w, rfl, hw⟩ := allI_mem hi r h3
    exact q w s' h2 h3
local macro_rules | `(tactic| allgen_close_more) => `(tactic| (with_reducible refine pickN_w ?h1 ?h2 ?h3 ?h4 ?_; (case h1 => assumption); (case h2 => allgen_close2_more); (case h3 => allgen_close2_more); (case h4 => (simp only [allI, and_self]; done)); intro _ _ _ hm; simp only [List.mem_cons, PyData.int.injEq, List.not_mem_nil, or_false] at hm))
local macro_rules | `(tactic| allgen_close_more) => `(tactic| (with_reducible refine law_holds_w (dom := ?dd) ?h1 ?h2 ?_; (case h1 => assumption); (case h2 => assumption)))
local macro_rules | `(tactic| allgen_close_more) => `(tactic| with_reducible refine bcs_mk ?_ ?_)
theorem okM_Sy {dom : List Str} (hd : ∀ x ∈ dom, PyData.strOk x = true) {S : Sy} (h : SyOk dom S) : okM 4 (eSy S) := by
  have l1 : PyData.strOk "product" = true := by decide +kernel
  have l2 : PyData.strOk "ahead" = true := by decide +kernel
  have l3 : PyData.strOk "machine" = true := by decide +kernel
  cases S with
  | product a b c =>
    refine okM_tup fun d hd2 => ?_
    simp only [List.mem_cons, List.not_mem_nil, or_false] at hd2
    rcases hd2 with e | e | e | e <;> subst e
    · exact okM_str _ l1
    · exact okM_str _ (hd _ h.1)
    · exact okM_str _ (hd _ h.2.1)
    · exact okM_str _ (hd _ h.2.2)
  | ahead xs ys =>
    refine okM_tup fun d hd2 => ?_
    simp only [List.mem_cons, List.not_mem_nil, or_false] at hd2
    rcases hd2 with e | e | e <;> subst e
    · exact okM_str _ l2
    · exact okM_tup (okM_map fun x hx => okM_str 2 (hd _ (h.2.2.1 x hx)))
    · exact okM_tup (okM_map fun x hx => okM_str 2 (hd _ (h.2.2.2 x hx)))
  | machine xs st0 mvs ends =>
    refine okM_tup fun d hd2 => ?_
    simp only [List.mem_cons, List.not_mem_nil, or_false] at hd2
    rcases hd2 with e | e | e | e | e <;> subst e
    · exact okM_str _ l3
    · exact okM_tup (okM_map fun x hx => okM_str 2 (hd _ (h.2.2.2.1 x hx)))
    · exact okM_int _ _
    · exact okM_tup (okM_map fun t ht => okM_tup fun d hd2 => by
        simp only [List.mem_cons, List.not_mem_nil, or_false] at hd2
        rcases hd2 with e | e | e <;> subst e <;> exact okM_int _ _)
    · exact okM_tup (okM_map fun t ht => okM_int _ _)
theorem okM_Fs {dom : List Str} (hd : ∀ x ∈ dom, PyData.strOk x = true) {p : Str × Sy} (hp : PyData.strOk p.1 = true) (h : SyOk dom p.2) : okM 5 (eFs p) := okM_tup fun d hd2 => by
  simp only [List.mem_cons, List.not_mem_nil, or_false] at hd2
  rcases hd2 with e | e <;> subst e
  · exact okM_str _ hp
  · exact okM_Sy hd h
theorem inj_on {α β : Type} {f : α → β} : ∀ {l : List α}, (l.map f).Nodup → ∀ p ∈ l, ∀ p' ∈ l, f p = f p' → p = p'
  | [], _, p, hp, _, _, _ => by cases hp
  | x :: r, h, p, hp, p', hp', e => by
    rw [List.map_cons, List.nodup_cons] at h
    rcases List.mem_cons.mp hp with hp | hp
    · rcases List.mem_cons.mp hp' with hp' | hp'
      · rw [hp, hp']
      · rw [hp] at e
        exact absurd (List.mem_map.mpr ⟨p', hp', e.symm⟩) h.1
    · rcases List.mem_cons.mp hp' with hp' | hp'
      · rw [hp'] at e
        exact absurd (List.mem_map.mpr ⟨p, hp, e⟩) h.1
      · exact inj_on h.2 p hp p' hp' e
theorem names_nd {α β : Type} {f : α → β} {made fl : List α} {t : α → Bool} (hm : (made.map f).Nodup) (h3 : fl.Sublist made) (ht : ∀ p ∈ fl, t p = false) : ((fl ++ made.filter t).map f).Nodup := by
  have hfilt : (made.filter t).Sublist made := List.filter_sublist
  rw [List.map_append]
  refine List.pairwise_append.mpr ⟨hm.sublist (h3.map f), hm.sublist (hfilt.map f), fun x hx y hy e => ?_⟩
  obtain ⟨p, hp1, rfl⟩ := List.mem_map.mp hx
  obtain ⟨p', hp2, rfl⟩ := List.mem_map.mp hy
  have := inj_on hm p (h3.mem hp1) p' (hfilt.mem hp2) e
  subst this
  have h1 := ht p hp1
  have h2 := (List.mem_filter.mp hp2).2
  rw [h1] at h2; cases h2
theorem parted_w {s : D} {made : List (Str × Sy)} {kvs : List (D × D)} {dom : List Str} (hs : Sd s) (hm0 : 0 < made.length) (hm : made.length ≤ 5) (hmn : (made.map (·.1)).Nodup) (hmS : ∀ p ∈ made, SyOk dom p.2 ∧ PyData.strOk p.1 = true) (hW : AtOk kvs dom) (hxs : ∀ x ∈ dom, PyData.strOk x = true) {Q : D → List D → Prop}
    (q : ∀ (fl soft : List (Str × Sy)) (s' : D), Sd s' → fl.length ≤ 5 → soft.length ≤ 5 → ((fl ++ soft).map (·.1)).Nodup → (∀ p ∈ fl ++ soft, SyOk dom p.2) → Q (.list [.list (fl.map eFs), .list (soft.map eFs)]) [s', .list (made.map eFs), .dict kvs]) :
    PD.Wq (f__law_parted [s, .list (made.map eFs), .dict kvs]) Q := by
  unfold f__law_parted m__law_parted
  top_reprB
  rename_i cut s2 h2 c0 c1
  rw [cut_lo c0, ← List.map_drop]
  refine q_lcK (fun k acc ρ => ∃ (fl : List (Str × Sy)) (s' : D), acc = fl.map eFs ∧ fl.Sublist ((made.drop cut.toNat).take k) ∧ Sd s' ∧ ρ = [some (true, s'), some (false, .list (made.map eFs)), some (false, .dict kvs), some (false, .int cut), none, none]) (by simp; omega) ⟨[], s2, rfl, List.nil_sublist _, h2, rfl⟩ (fun k d acc ρ hd ⟨fl, s3, e1, h3, h4, e⟩ => ?_) fun acc ρ _ ⟨fl, s3, e1, h3, h4, e⟩ => ?_
  · subst e
    rw [List.getElem?_map] at hd
    cases hx : (made.drop cut.toNat)[k]? with
    | none => rw [hx] at hd; cases hd
    | some x =>
      rw [hx] at hd
      cases hd
      have hxm := List.mem_of_mem_drop (List.mem_of_getElem? hx)
      have hxS := (hmS x hxm).1
      obtain ⟨hk, hx'⟩ := List.getElem?_eq_some_iff.mp hx
      have htk : (made.drop cut.toNat).take (k + 1) = (made.drop cut.toNat).take k ++ [x] := by rw [← hx', List.take_append_getElem hk]
      rw [htk, e1]
      have hyes : (fl ++ [x]).Sublist ((made.drop cut.toNat).take k ++ [x]) := h3.append (List.Sublist.refl _)
      have hno : fl.Sublist ((made.drop cut.toNat).take k ++ [x]) := h3.trans (List.sublist_append_left _ _)
      top_reprB
      · exact ⟨fl ++ [x], s3, by simp, hyes, h4, rfl⟩
      · exact ⟨fl ++ [x], _, by simp, hyes, by assumption, rfl⟩
      · exact ⟨fl, _, rfl, hno, by assumption, rfl⟩
  subst e
  rw [List.length_map, List.take_length] at h3
  have h3 : fl.Sublist made := h3.trans (List.drop_sublist _ _)
  have hfm : ∀ p ∈ fl, p ∈ made := fun p hp => h3.mem hp
  have hok : ∀ p ∈ made, okM 5 (eFs p) := fun p hp => okM_Fs hxs (hmS p hp).2 (hmS p hp).1
  subst e1
  top_reprB
  refine q_lcM made eFs (fun ρ => ρ = [some (true, s3), some (false, .list (made.map eFs)), some (false, .dict kvs), some (false, .int cut), some (false, .list (fl.map eFs)), none]) (fun x => !(fl.any fun y => PyData.eqv (eFs y) (eFs x))) eFs (by omega) rfl (fun x hx ρ e => ?_) fun ρ e => ?_
  · subst e
    top_reprB
    refine w_notInM (n := 5) (by decide) (hok x hx) (fun y hy => hok y (hfm y hy)) ?_
    top_reprB
    all_goals rfl
  subst e
  top_reprB
  refine q fl _ s3 h4 (by have := h3.length_le; omega) (by have := List.length_filter_le (fun x => !(fl.any fun y => PyData.eqv (eFs y) (eFs x))) made; omega) (names_nd hmn h3 fun p hp => ?_) fun p hp => ?_
  · simp only [Bool.not_eq_false', List.any_eq_true]
    exact ⟨p, hp, eqv_self _ (hok p (hfm p hp)).1⟩
  · rcases List.mem_append.mp hp with hp | hp
    · exact (hmS p (hfm p hp)).1
    · exact (hmS p (List.mem_filter.mp hp).1).1
theorem others_len {row : List Str} (hn : row.Nodup) {r : Str} (hr : r ∈ row) : (row.filter fun x => !decide (x = r)).length + 1 = row.length := by
  induction row with
  | nil => cases hr
  | cons a l ih =>
    obtain ⟨h1, h2⟩ := List.nodup_cons.mp hn
    by_cases e : a = r
    · subst e
      have : l.filter (fun x => !decide (x = a)) = l := List.filter_eq_self.mpr fun x hx => by
        have : x ≠ a := fun z => h1 (z ▸ hx)
        simp [this]
      rw [List.filter_cons_of_neg (by simp), this, List.length_cons]
    · rw [List.filter_cons_of_pos (by simp [e]), List.length_cons, List.length_cons, ih h2 (by
        rcases List.mem_cons.mp hr with h | h
        · exact absurd h.symm e
        · exact h)]
def eB (v : Int) : D × D := (.int v, .bool true)
theorem dput_eB (fd : List Int) (v : Int) : ∃ fd' : List Int, gPut.dput (fd.map eB) (.inl v) (.bool true) = fd'.map eB ∧ fd'.length ≤ fd.length + 1 ∧ 0 < fd'.length ∧ ∀ u ∈ fd', u ∈ fd ∨ u = v := by
  unfold gPut.dput
  split
  · rename_i hh
    refine ⟨fd, ?_, by omega, ?_, fun u hu => .inl hu⟩
    · rw [List.map_map]
      refine List.map_congr_left fun t _ => ?_
      simp only [Function.comp, eB, keyD_i, Option.some.injEq, Sum.inl.injEq]
      by_cases h : t = v <;> simp [h]
    · cases fd with
      | nil => simp [dget] at hh
      | cons a r => simp
  · exact ⟨fd ++ [v], by simp [eB, kD], by simp, by simp, fun u hu => by simpa using hu⟩
theorem w_dputB {fd : List Int} {v : Int} {Q : D → Prop} (h : fd.length < 1000) (q : ∀ fd' : List Int, fd'.length ≤ fd.length + 1 → 0 < fd'.length → (∀ u ∈ fd', u ∈ fd ∨ u = v) → Q (.dict (fd'.map eB))) : Wp (gPut (.dict (fd.map eB)) (.int v) (.bool true)) Q := by
  rw [gPutD (by simp; omega)]
  obtain ⟨fd', e, g1, g2, g3⟩ := dput_eB fd v
  rw [e]
  exact W_some.mpr (q fd' g1 g2 g3)
theorem fd_steps {fd : List (List Int × D)} {k : List Int} {d : D} (h : ∀ p ∈ fd, p.1.length = 2 ∧ TSh.In p.1 ∧ ∃ v, p.2 = .int v ∧ 0 ≤ v ∧ v < 12) (hk : k.length = 2 ∧ TSh.In k) (hd : ∃ v, d = .int v ∧ 0 ≤ v ∧ v < 12) : ∀ p ∈ putL fd k d, p.1.length = 2 ∧ TSh.In p.1 ∧ ∃ v, p.2 = .int v ∧ 0 ≤ v ∧ v < 12 := fun p hp => by
  rcases putL_mem hp with h1 | ⟨h1, h2⟩
  · exact h p h1
  · rw [h1, h2]; exact ⟨hk.1, hk.2, hd⟩
theorem putL_keys {fd : List (List Int × D)} {k : List Int} {d : D} (hn : (fd.map (·.1)).Nodup) : ((putL fd k d).map (·.1)).Nodup := by
  unfold putL
  split
  · rw [List.map_map]
    rw [show ((fun p : List Int × D => p.1) ∘ fun p => if p.1 = k then (p.1, d) else p) = fun p => p.1 from by
      funext p
      show (if p.1 = k then (p.1, d) else p).1 = p.1
      split <;> rfl]
    exact hn
  · rename_i h
    rw [List.map_append]
    refine List.pairwise_append.mpr ⟨hn, List.pairwise_singleton .., fun x hx y hy e => ?_⟩
    obtain ⟨p, hp, rfl⟩ := List.mem_map.mp hx
    have hy : y = k := by simpa using hy
    rw [hy] at e
    apply h
    unfold getL
    cases q : fd.find? (fun p => decide (p.1 = k)) with
    | none =>
      have := List.find?_eq_none.mp q p hp
      simp only [decide_eq_true_eq] at this
      exact absurd e this
    | some _ => rfl
theorem getL_some {fd : List (List Int × D)} {k : List Int} (h : ∀ p ∈ fd, p.1.length = 2 ∧ TSh.In p.1 ∧ ∃ v, p.2 = .int v ∧ 0 ≤ v ∧ v < 12) (hs : (getL fd k).isSome = true) : ∃ v, getL fd k = some (.int v) ∧ 0 ≤ v ∧ v < 12 := by
  unfold getL at hs ⊢
  cases q : fd.find? (fun p => decide (p.1 = k)) with
  | none => rw [q] at hs; cases hs
  | some p =>
    obtain ⟨_, _, v, hv, hv2⟩ := h p (List.mem_of_find?_eq_some q)
    exact ⟨v, by simp [hv], hv2⟩
theorem getL_mem {fd : List (List Int × D)} {k : List Int} (h : k ∈ fd.map (·.1)) : (getL fd k).isSome = true := by
  unfold getL
  cases q : fd.find? (fun p => decide (p.1 = k)) with
  | none =>
    obtain ⟨p, hp, rfl⟩ := List.mem_map.mp h
    have := List.find?_eq_none.mp q p hp
    simp at this
  | some _ => rfl
theorem machine_w {s : D} {doms : List (Str × List Int)} {kvs : List (D × D)} (hs : Sd s) (hd0 : 0 < doms.length) (hd : doms.length ≤ 24) (hdv : ∀ d ∈ doms, 0 < d.2.length ∧ d.2.length ≤ 12 ∧ ∀ v ∈ d.2, Bd v) (hk : AtOk kvs (doms.map (·.1))) {Q : D → List D → Prop}
    (q : ∀ (S : Sy) s', Sd s' → SyOk (doms.map (·.1)) S → Q (eSy S) [s', .list (doms.map eDm), .dict kvs]) : PD.Wq (f__law_machine [s, .list (doms.map eDm), .dict kvs]) Q := by
  unfold f__law_machine m__law_machine
  top_reprB
  rename_i ys sD hD hp r1 sA hA _ _ r2 sB hB _ _ w sC hC hw
  have hw1 : 1 ≤ w := by omega
  have hw2 : w ≤ 12 := by omega
  rw [cut_hi (by omega), ← List.map_take]
  have hyl := hp.length_eq
  refine q_lcA (ys.take w.toNat) eDm (fun ρ => ρ = [some (true, sC), some (false, .list (doms.map eDm)), some (false, .dict kvs), none, none, none, none, none, none, none, none, none, none, none, none]) (fun d => .str d.1) (by rw [List.length_take]; omega) rfl (fun d hd ρ e => ?_) fun ρ e => ?_
  · subst e
    top_reprB
    all_goals rfl
  subst e
  rw [show (fun d : Str × List Int => PyData.str d.1) = PyData.str ∘ (fun d => d.1) from rfl, ← List.map_map]
  have hx1 : 1 ≤ ((ys.take w.toNat).map (·.1)).length ∧ ((ys.take w.toNat).map (·.1)).length ≤ 12 := by rw [List.length_map, List.length_take]; omega
  have hx2 : ∀ x ∈ (ys.take w.toNat).map (·.1), x ∈ doms.map (·.1) := fun x hx => by
    obtain ⟨d, hd, rfl⟩ := List.mem_map.mp hx
    have hd := hp.mem_iff.mp (List.mem_of_mem_take hd)
    exact List.mem_map.mpr ⟨d, hd, rfl⟩
  generalize (ys.take w.toNat).map (·.1) = xs at *
  have hg : ∀ x ∈ xs, dget kvs (.inr x) = some (.int (valK kvs x)) ∧ Bd (valK kvs x) := fun x hx => hk x (hx2 x hx)
  top_reprB
  rename_i sn s1 h1 sn0 sn1 st0 s2 h2 t0 t1 r3 s3 h3 r30 r31
  clear hA hB hC hD hs sA sB sC sD
  have hcut : ∃ xt : List Str, PD.cutD (xs.map PyData.str) none (some (((xs.map PyData.str).length : Nat) - (if r3 = 0 then 1 else 0 : Int))) = xt.map .str ∧ (∀ x ∈ xt, x ∈ xs) ∧ xt.length ≤ 12 := by
    refine ⟨xs.take (((xs.map PyData.str).length : Nat) - (if r3 = 0 then 1 else 0 : Int)).toNat, ?_, fun x hx => List.mem_of_mem_take hx, by rw [List.length_take]; omega⟩
    rw [cut_hi (by rw [List.length_map]; split <;> omega), List.map_take]
  obtain ⟨xt, hct, x1, x2⟩ := hcut
  rw [hct]
  have keyIn : ∀ {a : Int} {x : Str}, 0 ≤ a → a < 12 → x ∈ xs → ([a, valK kvs x] : List Int).length = 2 ∧ TSh.In [a, valK kvs x] := fun {a x} h1 h2 hx => ⟨rfl, fun v hv => by
    have := (hg x hx).2
    unfold Bd at this
    simp only [List.mem_cons, List.not_mem_nil, or_false] at hv
    rcases hv with e | e <;> subst e <;> omega⟩
  refine W_forM xt .str (fun pre ρ => ∃ (s4 : D) (fd : List (List Int × D)) (here : Int) (z : Option (Bool × D)), ρ = [some (true, s4), some (false, .list (doms.map eDm)), some (false, .dict kvs), some (false, .list (xs.map .str)), some (false, .int (1 + sn)), some (false, .int st0), some (true, tdOf fd), some (false, .int here), z, none, none, none, none, none, none] ∧ Sd s4 ∧ fd.length ≤ pre.length ∧ (∀ p ∈ fd, p.1.length = 2 ∧ TSh.In p.1 ∧ ∃ v, p.2 = .int v ∧ 0 ≤ v ∧ v < 12) ∧ (fd.map (·.1)).Nodup ∧ 0 ≤ here ∧ here < 12) ⟨s3, [], st0, _, rfl, h3, Nat.le_refl _, by simp, by simp, t0, by omega⟩ (fun pre x post ρ e hρ => ?_) fun ρ hρ => ?_
  · obtain ⟨s4, fd, here, z, rfl, h4, g1, g2, g3, g4, g5⟩ := hρ
    have hpl := congrArg List.length e
    simp only [List.length_append, List.length_cons] at hpl
    have hxm : x ∈ xs := x1 x (by rw [e]; simp)
    have hgx := (hg x hxm).1
    have hki := keyIn g4 g5 hxm
    top_reprB
    refine w_notInTd (k := [here, valK kvs x]) ?_
    cases hq : (getL fd [here, valK kvs x]).isSome with
    | true =>
      obtain ⟨v, hv, v0, v1⟩ := getL_some g2 hq
      top_reprB
      refine w_ixTd (k := [here, valK kvs x]) hv ?_
      top_reprB
      exact ⟨s4, fd, v, _, rfl, h4, by simp; omega, g2, g3, v0, v1⟩
    | false =>
      top_reprB
      simp only [q_putT]
      top_reprB
      rename_i v s5 h5 v0 v1
      refine w_putT (k := [here, valK kvs x]) (by omega) ?_
      top_reprB
      refine w_ixTd (k := [here, valK kvs x]) (d := .int v) (by rw [getL_putL, if_pos rfl]) ?_
      top_reprB
      have hl := putL_len fd [here, valK kvs x] (.int v)
      exact ⟨s5, _, v, _, rfl, h5, by simp; omega, fd_steps g2 hki ⟨v, rfl, by omega, by omega⟩, putL_keys g3, by omega, by omega⟩
  clear h1 h2 h3 s1 s2 s3
  obtain ⟨s4, fd, here, z, rfl, h4, g1, g2, g3, g4, g5⟩ := hρ
  top_reprB
  refine q_lcA xs .str (fun ρ => ∃ z, ρ = [some (true, s4), some (false, .list (doms.map eDm)), some (false, .dict kvs), some (false, .list (xs.map .str)), some (false, .int (1 + sn)), some (false, .int st0), some (true, tdOf fd), some (false, .int here), z, none, none, none, none, none, none]) (fun x => .int (valK kvs x)) (by omega) ⟨_, rfl⟩ (fun x hx ρ ⟨z, e⟩ => ?_) fun ρ hρ => ?_
  · subst e
    have hgx := (hg x hx).1
    top_reprB
    all_goals exact ⟨_, rfl⟩
  obtain ⟨z, rfl⟩ := hρ
  rw [show (fun x => PyData.int (valK kvs x)) = PyData.int ∘ valK kvs from rfl, ← List.map_map]
  top_reprB
  refine q_lcE (List.range (Int.toNat 4)) (fun i => .int (0 + (i : Nat))) (fun ρ => ∃ s5 y, Sd s5 ∧ ρ = [some (true, s5), some (false, .list (doms.map eDm)), some (false, .dict kvs), some (false, .list (xs.map .str)), some (false, .int (1 + sn)), some (false, .int st0), some (true, tdOf fd), some (false, .int here), none, none, y, none, none, none, none]) .int (fun _ v => Bd v) (by decide) ⟨_, _, h4, rfl⟩ (fun i hi ρ ⟨s5, y, h5, e⟩ => ?_) fun vs ρ hl hP hρ => ?_
  · subst e
    top_reprB
    rename_i d s6 h6 hdm
    have hdx := hdv d hdm
    top_reprB
    · rename_i v _ _ hv
      exact ⟨v, rfl, hdx.2.2 v hv⟩
    · exact ⟨_, _, by assumption, rfl⟩
  clear h4 s4
  obtain ⟨s4, y, h4, rfl⟩ := hρ
  have hvs : ∀ v ∈ vs, Bd v := fun v hv => by
    obtain ⟨i, hi, e⟩ := List.mem_iff_getElem.mp hv
    rw [List.length_range] at hl
    exact hP i i v (List.getElem?_range (by omega)) (by rw [List.getElem?_eq_getElem hi, e])
  have hl4 : vs.length = 4 := by rw [hl]; rfl
  top_reprB
  rename_i r5 s5 h5 r50 r51 r6 s6 h6 r60 r61 r7 s7 h7 r70 r71 w2 s8 h8 hw3
  rw [show (xs.map (valK kvs)).map PyData.int ++ vs.map PyData.int ++ [PyData.int (r5 - 200)] = (xs.map (valK kvs) ++ vs ++ [r5 - 200]).map .int by simp]
  have hvb : ∀ v ∈ xs.map (valK kvs) ++ vs ++ [r5 - 200], Bd v := fun v hv => by
    rcases List.mem_append.mp hv with hv | hv
    · rcases List.mem_append.mp hv with hv | hv
      · obtain ⟨x, hx, rfl⟩ := List.mem_map.mp hv
        exact (hg x hx).2
      · exact hvs v hv
    · rw [List.mem_singleton.mp hv]; unfold Bd; omega
  have hvl : 0 < (xs.map (valK kvs) ++ vs ++ [r5 - 200]).length ∧ (xs.map (valK kvs) ++ vs ++ [r5 - 200]).length ≤ 20 := by
    simp only [List.length_append, List.length_map, List.length_cons, List.length_nil]
    omega
  generalize xs.map (valK kvs) ++ vs ++ [r5 - 200] = vals at *
  have hfl : fd.length ≤ 40 := by omega
  refine W_forR (fun k ρ => ∃ (s4 : D) (fd : List (List Int × D)) (a b : Option (Bool × D)), ρ = [some (true, s4), some (false, .list (doms.map eDm)), some (false, .dict kvs), some (false, .list (xs.map .str)), some (false, .int (1 + sn)), some (false, .int st0), some (true, tdOf fd), some (false, .int here), none, some (false, .list (vals.map .int)), a, b, none, none, none] ∧ Sd s4 ∧ fd.length ≤ 40 ∧ (∀ p ∈ fd, p.1.length = 2 ∧ TSh.In p.1 ∧ ∃ v, p.2 = .int v ∧ 0 ≤ v ∧ v < 12) ∧ (fd.map (·.1)).Nodup) ⟨s8, fd, _, _, rfl, h8, hfl, g2, g3⟩ (fun k ρ hk3 hρ => ?_) fun ρ hρ => ?_
  · clear g1 g2 g3 hfl fd h4 h5 h6 h7 h8 s4 s5 s6 s7 s8
    obtain ⟨s4, fd, a, b, rfl, h4, g1, g2, g3⟩ := hρ
    top_reprB
    rename_i av s5 h5 a0 a1 v s6 h6 hvm
    have hvB := hvb v hvm
    have hki : ([av, v] : List Int).length = 2 ∧ TSh.In [av, v] := ⟨rfl, fun u hu => by
      unfold Bd at hvB
      simp only [List.mem_cons, List.not_mem_nil, or_false] at hu
      rcases hu with e | e <;> subst e <;> omega⟩
    refine w_notInTd (k := [av, v]) ?_
    cases hq : (getL fd [av, v]).isSome with
    | true =>
      top_reprB
      exact ⟨s6, fd, _, _, rfl, h6, g1, g2, g3⟩
    | false =>
      top_reprB
      refine w_lenTd ?_
      top_reprB
      · rename_i hlt
        simp only [q_putT]
        top_reprB
        rename_i u s7 h7 u0 u1
        refine w_putT (k := [av, v]) (by omega) ?_
        top_reprB
        have hl := putL_len fd [av, v] (.int u)
        exact ⟨s7, _, _, _, rfl, h7, by omega, fd_steps g2 hki ⟨u, rfl, u0, u1⟩, putL_keys g3⟩
      · exact ⟨s6, fd, _, _, rfl, h6, g1, g2, g3⟩
  clear g1 g2 g3 hfl fd h4 h5 h6 h7 h8 s4 s5 s6 s7 s8
  obtain ⟨s4, fd, a, b, rfl, h4, g1, g2, g3⟩ := hρ
  top_reprB
  refine q_lcK (fun k acc ρ => ∃ (es : List Int) (s5 : D), acc = es.map .int ∧ es.length ≤ k ∧ Sd s5 ∧ ρ = [some (true, s5), some (false, .list (doms.map eDm)), some (false, .dict kvs), some (false, .list (xs.map .str)), some (false, .int (1 + sn)), some (false, .int st0), some (true, tdOf fd), some (false, .int here), none, some (false, .list (vals.map .int)), a, b, none, none, none]) (by rw [rangeD_I, List.length_map, rangeI_len]; decide) ⟨[], s4, rfl, Nat.le_refl _, h4, rfl⟩ (fun k d acc ρ hd5 hρ => ?_) fun acc ρ _ hρ => ?_
  · obtain ⟨es, s5, rfl, e1, h5, rfl⟩ := hρ
    rw [rangeD_I, List.getElem?_map] at hd5
    obtain ⟨qv, _, rfl⟩ := Option.map_eq_some_iff.mp hd5
    top_reprB
    all_goals first
      | exact ⟨es, _, rfl, by omega, by assumption, rfl⟩
      | exact ⟨es ++ [qv], _, by simp, by simp; omega, by assumption, rfl⟩
  obtain ⟨es, s5, rfl, e1, h5, rfl⟩ := hρ
  have hes : es.length ≤ 12 := by
    rw [rangeD_I, List.length_map, rangeI_len] at e1
    exact e1
  top_reprB
  · rename_i r9 s9 h9 r90 r91 r92
    refine w_sortedTd (n := 2) ⟨by decide, by rw [List.length_map]; omega, fun z hz => ?_⟩ ?_
    · obtain ⟨p, hp, rfl⟩ := List.mem_map.mp hz
      exact ⟨(g2 p hp).1, (g2 p hp).2.1⟩
    top_reprB
    refine q_lcE (sortT (fd.map (·.1))) tupI (fun ρ => ∃ c, ρ = [some (true, s9), some (false, .list (doms.map eDm)), some (false, .dict kvs), some (false, .list (xs.map .str)), some (false, .int (1 + sn)), some (false, .int st0), some (true, tdOf fd), some (false, .int here), none, some (false, .list (vals.map .int)), a, c, some (false, .list (List.map .int ([] : List Int))), none, none]) eMv (fun key m => key = [m.1, m.2.1]) (by rw [(sortT_perm _).length_eq, List.length_map]; omega) ⟨_, rfl⟩ (fun key hkey ρ ⟨c, e⟩ => ?_) fun mvs ρ hl9 hP9 hρ => ?_
    · subst e
      have hkm := (sortT_perm _).mem_iff.mp hkey
      obtain ⟨p, hp, hp1⟩ := List.mem_map.mp hkm
      obtain ⟨v, hv, v0, v1⟩ := getL_some g2 (getL_mem hkm)
      have hk2 : key.length = 2 := by rw [← hp1]; exact (g2 p hp).1
      obtain ⟨ka, kb, rfl⟩ : ∃ a b, key = [a, b] := by
        match key, hk2 with
        | [a, b], _ => exact ⟨a, b, rfl⟩
      unfold tupI
      top_reprB
      refine w_ixTd (k := [ka, kb]) hv ?_
      top_reprB
      · exact ⟨(ka, kb, v), rfl, rfl⟩
      · exact ⟨_, rfl⟩
    obtain ⟨c, rfl⟩ := hρ
    have hmk : mvs.map (fun m => [m.1, m.2.1]) = sortT (fd.map (·.1)) := by
      apply List.ext_getElem?
      intro i
      by_cases hi : i < mvs.length
      · have := hP9 i _ mvs[i] (List.getElem?_eq_getElem (show i < (sortT (fd.map (·.1))).length by omega)) (List.getElem?_eq_getElem hi)
        rw [List.getElem?_map, List.getElem?_eq_getElem hi, List.getElem?_eq_getElem (show i < (sortT (fd.map (·.1))).length by omega), this]; rfl
      · rw [List.getElem?_eq_none (by rw [List.length_map]; omega), List.getElem?_eq_none (by omega)]
    have hmn : (mvs.map fun m => [m.1, m.2.1]).Nodup := by rw [hmk]; exact (sortT_perm _).nodup_iff.mpr g3
    have hml : mvs.length ≤ 40 := by rw [hl9, (sortT_perm _).length_eq, List.length_map]; exact g1
    top_reprB
    exact q (.machine xs st0 mvs []) s9 h9 ⟨hx1.2, by omega, by first | exact hes | decide, hx2, hmn⟩
  · rename_i r9 s9 h9 r90 r91 r92
    refine w_sortedTd (n := 2) ⟨by decide, by rw [List.length_map]; omega, fun z hz => ?_⟩ ?_
    · obtain ⟨p, hp, rfl⟩ := List.mem_map.mp hz
      exact ⟨(g2 p hp).1, (g2 p hp).2.1⟩
    top_reprB
    refine q_lcE (sortT (fd.map (·.1))) tupI (fun ρ => ∃ c, ρ = [some (true, s9), some (false, .list (doms.map eDm)), some (false, .dict kvs), some (false, .list (xs.map .str)), some (false, .int (1 + sn)), some (false, .int st0), some (true, tdOf fd), some (false, .int here), none, some (false, .list (vals.map .int)), a, c, some (false, .list (List.map .int (es : List Int))), none, none]) eMv (fun key m => key = [m.1, m.2.1]) (by rw [(sortT_perm _).length_eq, List.length_map]; omega) ⟨_, rfl⟩ (fun key hkey ρ ⟨c, e⟩ => ?_) fun mvs ρ hl9 hP9 hρ => ?_
    · subst e
      have hkm := (sortT_perm _).mem_iff.mp hkey
      obtain ⟨p, hp, hp1⟩ := List.mem_map.mp hkm
      obtain ⟨v, hv, v0, v1⟩ := getL_some g2 (getL_mem hkm)
      have hk2 : key.length = 2 := by rw [← hp1]; exact (g2 p hp).1
      obtain ⟨ka, kb, rfl⟩ : ∃ a b, key = [a, b] := by
        match key, hk2 with
        | [a, b], _ => exact ⟨a, b, rfl⟩
      unfold tupI
      top_reprB
      refine w_ixTd (k := [ka, kb]) hv ?_
      top_reprB
      · exact ⟨(ka, kb, v), rfl, rfl⟩
      · exact ⟨_, rfl⟩
    obtain ⟨c, rfl⟩ := hρ
    have hmk : mvs.map (fun m => [m.1, m.2.1]) = sortT (fd.map (·.1)) := by
      apply List.ext_getElem?
      intro i
      by_cases hi : i < mvs.length
      · have := hP9 i _ mvs[i] (List.getElem?_eq_getElem (show i < (sortT (fd.map (·.1))).length by omega)) (List.getElem?_eq_getElem hi)
        rw [List.getElem?_map, List.getElem?_eq_getElem hi, List.getElem?_eq_getElem (show i < (sortT (fd.map (·.1))).length by omega), this]; rfl
      · rw [List.getElem?_eq_none (by rw [List.length_map]; omega), List.getElem?_eq_none (by omega)]
    have hmn : (mvs.map fun m => [m.1, m.2.1]).Nodup := by rw [hmk]; exact (sortT_perm _).nodup_iff.mpr g3
    have hml : mvs.length ≤ 40 := by rw [hl9, (sortT_perm _).length_eq, List.length_map]; exact g1
    top_reprB
    exact q (.machine xs st0 mvs es) s9 h9 ⟨hx1.2, by omega, by first | exact hes | decide, hx2, hmn⟩
/-! ### the other kinds -/
theorem times_w {s : D} {doms : List (Str × List Int)} {sz : Int} (hs : Sd s) (hd0 : 0 < doms.length) (hd : doms.length ≤ 24) (hdv : ∀ d ∈ doms, 0 < d.2.length ∧ d.2.length ≤ 12 ∧ ∀ v ∈ d.2, Bd v) (h0 : 1 ≤ sz) (h1 : sz ≤ 12) {Q : D → List D → Prop}
    (q : ∀ (vs : List Int) s', Sd s' → 0 < vs.length → vs.length ≤ sz.toNat → (∀ u ∈ vs, Bd u) → Q (.tuple (vs.map .int)) [s', .list (doms.map eDm), .int sz]) : PD.Wq (f__law_times [s, .list (doms.map eDm), .int sz]) Q := by
  unfold f__law_times m__law_times
  top_reprB
  refine W_forR (fun k ρ => ∃ (s3 : D) (fd : List Int) (a b : Option (Bool × D)), ρ = [some (true, s3), some (false, .list (doms.map eDm)), some (false, .int sz), some (true, .dict (fd.map eB)), a, b] ∧ Sd s3 ∧ fd.length ≤ k ∧ (0 < k → 0 < fd.length) ∧ ∀ u ∈ fd, Bd u) ⟨s, [], _, _, rfl, hs, Nat.le_refl _, by simp, by simp⟩ (fun k ρ hk hρ => ?_) fun ρ hρ => ?_
  · obtain ⟨s3, fd, a, b, rfl, h3, g1, g2, g3⟩ := hρ
    have hk12 : k < 12 := hk
    top_reprB
    rename_i d1 s4 h4 hd1
    have hx1 := hdv d1 hd1
    top_reprB
    rename_i v1 s5 h5 hv1 d2 s6 h6 hd2
    have hx2 := hdv d2 hd2
    top_reprB
    rename_i v2 s7 h7 hv2
    have b1 := hx1.2.2 v1 hv1
    unfold Bd at b1
    refine w_mul (.inl ⟨by omega, by omega⟩) ?_
    generalize v1 * v2 = vv
    top_reprB
    refine w_dputB (by omega) fun fd' e1 e2 e3 => ?_
    top_reprB
    refine ⟨_, fd', _, _, rfl, by assumption, by omega, fun _ => e2, fun u hu => ?_⟩
    rcases e3 u hu with h | h
    · exact g3 u h
    · rw [h]
      unfold Bd
      repeat' split
      all_goals omega
  · obtain ⟨s3, fd, a, b, rfl, h3, g1, g2, g3⟩ := hρ
    have g1 : fd.length ≤ 12 := g1
    have g2 : 0 < fd.length := g2 (by decide)
    top_reprB
    refine w_sortedD (ks := fd) (by rw [List.map_map]; rfl) (by omega) ?_
    have hsl : (sortI fd).length = fd.length := (sortI_perm _).length_eq
    have hsb : ∀ v ∈ sortI fd, Bd v := fun v hv => g3 v ((sortI_perm _).mem_iff.mp hv)
    generalize sortI fd = us at *
    top_reprB
    rename_i ws s4 h4 hp
    have hwl := hp.length_eq
    rw [cut_hi (by omega), ← List.map_take]
    refine w_sorted ?_
    top_reprB
    refine q _ s4 h4 (by rw [(sortI_perm _).length_eq, List.length_take]; omega) (by rw [(sortI_perm _).length_eq, List.length_take]; omega) fun u hu => hsb u (hp.mem_iff.mp (List.mem_of_mem_take ((sortI_perm _).mem_iff.mp hu)))
theorem nodup_len {α : Type} [DecidableEq α] : ∀ (l m : List α), l.Nodup → (∀ x ∈ l, x ∈ m) → l.length ≤ m.length
  | [], _, _, _ => Nat.zero_le _
  | x :: l, m, hn, h => by
    obtain ⟨h1, h2⟩ := List.nodup_cons.mp hn
    have hx := h x List.mem_cons_self
    have hs : ∀ y ∈ l, y ∈ m.erase x := fun y hy => (List.mem_erase_of_ne (fun e => h1 (by rw [← e]; exact hy))).mpr (h y (List.mem_cons_of_mem _ hy))
    have := nodup_len l (m.erase x) h2 hs
    rw [List.length_erase_of_mem hx] at this
    have := List.length_pos_of_mem hx
    rw [List.length_cons]
    omega
theorem w_neNil {zs : List Str} {Q : D → Prop} (h : ∀ z ∈ zs, PyData.strOk z = true) (q : Q (.bool (!zs.isEmpty))) : Wp (gNe (.list (zs.map .str)) (.list [])) Q := by
  refine ⟨_, if_pos ?_, ?_⟩
  · rw [okE_strs h, show okE (.list []) = true by decide]; rfl
  · have : PyData.eqv (.list (zs.map .str)) (.list []) = zs.isEmpty := by
      cases zs <;> simp [PyData.eqv, PyData.eqvAll]
    rw [this]; exact q
/-- one of the three kinds -/
def Kd (z : Str) : Prop := z = "product" ∨ z = "ahead" ∨ z = "machine"
theorem saying_w {s : D} {doms : List (Str × List Int)} {kvs : List (D × D)} {kind : Str} (hs : Sd s) (hkd : Kd kind) (hd0 : 3 ≤ doms.length) (hd : doms.length ≤ 24) (hsm : ∀ d ∈ doms.take 3, d.2.length ≤ 6) (hdv : ∀ d ∈ doms, 0 < d.2.length ∧ d.2.length ≤ 12 ∧ ∀ v ∈ d.2, Bd v) (hst : ∀ d ∈ doms, PyData.strOk d.1 = true) (hnd : (doms.map (·.1)).Nodup) (hk : AtOk kvs (doms.map (·.1)))
    {Q : D → List D → Prop} (q : ∀ (S : Sy) s', Sd s' → SyOk (doms.map (·.1)) S → Q (eSy S) [s', .str kind, .list (doms.map eDm), .dict kvs]) :
    PD.Wq (f__law_saying [s, .str kind, .list (doms.map eDm), .dict kvs]) Q := by
  unfold f__law_saying m__law_saying
  rcases hkd with e | e | e <;> subst e
  · top_reprB
    rename_i ys s1 h1 hp
    have hyl := hp.length_eq
    refine q_lcM ys eDm (fun ρ => ρ = [some (true, s1), some (false, .str "product"), some (false, .list (doms.map eDm)), some (false, .dict kvs), none, none, none, none, none, none, none, none, none, none, none]) (fun d => decide (((d.2.map PyData.int).length : Int) ≤ 6)) eDm (by omega) rfl (fun d hd ρ e => ?_) fun ρ e => ?_
    · subst e
      top_reprB
      all_goals rfl
    subst e
    have hm1 : ∀ d ∈ ys.filter (fun d => decide (((d.2.map PyData.int).length : Int) ≤ 6)), d ∈ doms := fun d hd => hp.mem_iff.mp (List.mem_filter.mp hd).1
    have hm2 : (ys.filter (fun d => decide (((d.2.map PyData.int).length : Int) ≤ 6))).length ≤ 24 := Nat.le_trans (List.length_filter_le _ _) (by omega)
    have hm3 : 3 ≤ (ys.filter (fun d => decide (((d.2.map PyData.int).length : Int) ≤ 6))).length := by
      rw [(hp.filter _).length_eq]
      have h3 : (doms.take 3).filter (fun d => decide (((d.2.map PyData.int).length : Int) ≤ 6)) = doms.take 3 := List.filter_eq_self.mpr fun d hd => by
        have := hsm d hd
        rw [decide_eq_true_eq, List.length_map]
        omega
      have h4 := ((List.take_sublist 3 doms).filter (fun d => decide (((d.2.map PyData.int).length : Int) ≤ 6))).length_le
      rw [h3, List.length_take] at h4
      omega
    generalize ys.filter (fun d => decide (((d.2.map PyData.int).length : Int) ≤ 6)) = sm at *
    obtain ⟨d0, hd00⟩ : ∃ d0, doms[Int.toNat 0]? = some d0 := ⟨_, List.getElem?_eq_getElem (show 0 < doms.length by omega)⟩
    have hd0s := hst d0 (List.mem_of_getElem? hd00)
    top_reprB
    rw [cut_lo (by decide), ← List.map_drop]
    refine q_lcM (sm.drop (Int.toNat 2)) eDm (fun ρ => ρ = [some (true, s1), some (false, .str "product"), some (false, .list (doms.map eDm)), some (false, .dict kvs), none, none, none, none, none, none, none, some (false, .list (sm.map eDm)), none, none, none]) (fun d => decide (d.1 = d0.1)) eDm (by rw [List.length_drop]; omega) rfl (fun d hd ρ e => ?_) fun ρ e => ?_
    · subst e
      top_reprB
      rename_i d1 hd1
      rw [hd00] at hd1
      cases hd1
      refine w_eq (gEq_ss (hst d (hm1 d (List.mem_of_mem_drop hd))) hd0s) ?_
      top_reprB
      all_goals rfl
    subst e
    have hf1 : ∀ d ∈ (sm.drop (Int.toNat 2)).filter (fun d => decide (d.1 = d0.1)), d ∈ doms := fun d hd => hm1 d (List.mem_of_mem_drop (List.mem_filter.mp hd).1)
    have hf2 : ((sm.drop (Int.toNat 2)).filter (fun d => decide (d.1 = d0.1))).length ≤ 24 := Nat.le_trans (List.length_filter_le _ _) (by rw [List.length_drop]; omega)
    generalize (sm.drop (Int.toNat 2)).filter (fun d => decide (d.1 = d0.1)) = fit at *
    have hsd : (sm.drop (Int.toNat 2)).length + 2 = sm.length := by rw [List.length_drop, show Int.toNat 2 = 2 from rfl]; omega
    top_reprB
    rename_i a ha b hb
    rw [cut_lo (by decide), ← List.map_drop]
    refine w_addL (by rw [List.length_map, List.length_map]; omega) ?_
    rw [← List.map_append]
    have hal : 0 < (fit ++ sm.drop (Int.toNat 2)).length := by rw [List.length_append]; omega
    have ham : ∀ d ∈ fit ++ sm.drop (Int.toNat 2), d ∈ doms := fun d hd => by
      rcases List.mem_append.mp hd with hd | hd
      · exact hf1 d hd
      · exact hm1 d (List.mem_of_mem_drop hd)
    generalize fit ++ sm.drop (Int.toNat 2) = al at *
    top_reprB
    rename_i c hc
    have nm : ∀ d ∈ doms, d.1 ∈ doms.map (·.1) := fun d hd => List.mem_map.mpr ⟨d, hd, rfl⟩
    exact q (.product a.1 b.1 c.1) s1 h1 ⟨nm a (hm1 a (List.mem_of_getElem? ha)), nm b (hm1 b (List.mem_of_getElem? hb)), nm c (ham c (List.mem_of_getElem? hc))⟩
  · top_reprB
    rw [List.length_map, Int.fdiv_eq_ediv_of_nonneg _ (by decide)]
    refine take_w hs (by split <;> omega) (by split <;> omega) fun r1 s1 h1 r10 r11 => ?_
    have r12 : r1 < 6 ∧ 2 * (1 + r1) ≤ doms.length := by split at r11 <;> omega
    top_reprB
    rename_i ys s2 h2 hp
    have hyl := hp.length_eq
    refine q_lcA ys eDm (fun ρ => ρ = [some (true, s2), some (false, .str "ahead"), some (false, .list (doms.map eDm)), some (false, .dict kvs), some (false, .int (1 + r1)), none, none, none, none, none, none, none, none, none, none]) (fun d => .str d.1) (by omega) rfl (fun d hd ρ e => ?_) fun ρ e => ?_
    · subst e
      top_reprB
      all_goals rfl
    subst e
    rw [show (fun d : Str × List Int => PyData.str d.1) = PyData.str ∘ (fun d => d.1) from rfl, ← List.map_map]
    have hrl : (ys.map (·.1)).length = doms.length := by rw [List.length_map, hp.length_eq]
    have hrn : (ys.map (·.1)).Nodup := (hp.map (·.1)).nodup_iff.mpr hnd
    have hrd : ∀ x ∈ ys.map (·.1), x ∈ doms.map (·.1) := fun x hx => (hp.map (·.1)).mem_iff.mp hx
    have hrs : ∀ x ∈ ys.map (·.1), PyData.strOk x = true := fun x hx => by
      obtain ⟨d, hd, rfl⟩ := List.mem_map.mp hx
      exact hst d (hp.mem_iff.mp hd)
    generalize ys.map (·.1) = row at *
    have hv := SyOk.vl hk hrd
    top_reprB
    rw [cut_hi (by omega), cut_lo (by omega), ← List.map_take, ← List.map_drop]
    have ho1 : (row.take (1 + r1).toNat).length = (1 + r1).toNat := by rw [List.length_take]; omega
    have ho2 : ∀ x ∈ row.take (1 + r1).toNat, x ∈ row := fun x hx => List.mem_of_mem_take hx
    have hr1 : (row.drop (1 + r1).toNat).length + (1 + r1).toNat = row.length := by rw [List.length_drop]; omega
    have hr2 : ∀ x ∈ row.drop (1 + r1).toNat, x ∈ row := fun x hx => List.mem_of_mem_drop hx
    have hr3 : (row.drop (1 + r1).toNat).Nodup := hrn.sublist (List.drop_sublist _ _)
    generalize row.take (1 + r1).toNat = one at *
    generalize row.drop (1 + r1).toNat = rest at *
    refine W_forM one .str (fun pre ρ => ∃ (s3 : D) (ot : List Str) (a b : Option (Bool × D)), ρ = [some (true, s3), some (false, .str "ahead"), some (false, .list (doms.map eDm)), some (false, .dict kvs), some (false, .int (1 + r1)), some (false, .list (row.map .str)), some (false, .list (one.map .str)), some (false, .list (rest.map .str)), some (true, .list (ot.map .str)), a, b, none, none, none, none] ∧ Sd s3 ∧ ot.length = pre.length ∧ ∀ x ∈ ot, x ∈ row) ⟨s2, [], _, _, rfl, h2, rfl, by simp⟩ (fun pre x post ρ e hρ => ?_) fun ρ hρ => ?_
    · obtain ⟨s3, ot, a, b, rfl, h3, g1, g2⟩ := hρ
      have hpl := congrArg List.length e
      simp only [List.length_append, List.length_cons] at hpl
      have hgx := (hv x (ho2 x (by rw [e]; simp))).1
      have hots : ∀ z ∈ ot, PyData.strOk z = true := fun z hz => hrs z (g2 z hz)
      top_reprB
      refine q_lcK (fun k acc ρ => ∃ (lk : List Str) (s5 : D), acc = lk.map .str ∧ lk.length ≤ k ∧ (∀ y ∈ lk, y ∈ row) ∧ Sd s5 ∧ ρ = [some (true, s5), some (false, .str "ahead"), some (false, .list (doms.map eDm)), some (false, .dict kvs), some (false, .int (1 + r1)), some (false, .list (row.map .str)), some (false, .list (one.map .str)), some (false, .list (rest.map .str)), some (true, .list (ot.map .str)), some (false, .str x), b, none, none, none, none]) (by rw [List.length_map]; omega) ⟨[], s3, rfl, Nat.le_refl _, by simp, h3, rfl⟩ (fun k d acc ρ hd5 hρ => ?_) fun acc ρ _ hρ => ?_
      · obtain ⟨lk, s5, rfl, e1, e2, h5, rfl⟩ := hρ
        rw [List.getElem?_map] at hd5
        obtain ⟨y, hy, rfl⟩ := Option.map_eq_some_iff.mp hd5
        have hym := hr2 y (List.mem_of_getElem? hy)
        have hgy := (hv y hym).1
        top_reprB
        refine w_notInS (hrs y hym) hots ?_
        top_reprB
        all_goals first
          | exact ⟨lk, _, rfl, by omega, e2, by assumption, rfl⟩
          | exact ⟨lk ++ [y], _, by simp, by simp; omega, (fun z hz => by
              rcases List.mem_append.mp hz with hz | hz
              · exact e2 z hz
              · rw [List.mem_singleton.mp hz]; exact hym), by assumption, rfl⟩
      obtain ⟨lk, s5, rfl, e1, e2, h5, rfl⟩ := hρ
      have hkl : lk.length ≤ 24 := by
        simp only [List.length_map] at e1
        omega
      have fin : ∀ (z : Str) (a b : Option (Bool × D)), z ∈ row → ∃ (s6 : D) (ot' : List Str) (a' b' : Option (Bool × D)), [some (true, s5), some (false, PyData.str "ahead"), some (false, .list (doms.map eDm)), some (false, .dict kvs), some (false, .int (1 + r1)), some (false, .list (row.map .str)), some (false, .list (one.map .str)), some (false, .list (rest.map .str)), some (true, .list (ot.map PyData.str ++ [PyData.str z])), a, b, none, none, none, none] = [some (true, s6), some (false, .str "ahead"), some (false, .list (doms.map eDm)), some (false, .dict kvs), some (false, .int (1 + r1)), some (false, .list (row.map .str)), some (false, .list (one.map .str)), some (false, .list (rest.map .str)), some (true, .list (ot'.map .str)), a', b', none, none, none, none] ∧ Sd s6 ∧ ot'.length = (pre ++ [x]).length ∧ ∀ x ∈ ot', x ∈ row := fun z a b hz => ⟨s5, ot ++ [z], _, _, by rw [List.map_append]; rfl, h5, by simp [g1], fun u hu => by
        rcases List.mem_append.mp hu with hu | hu
        · exact g2 u hu
        · rw [List.mem_singleton.mp hu]; exact hz⟩
      top_reprB
      refine w_neNil (fun z hz => hrs z (e2 z hz)) ?_
      tb_rel
      refine ⟨fun hE => ?_, fun hE => ?_⟩
      · top_reprB
        refine q_lcM rest .str (fun ρ => ρ = [some (true, s5), some (false, .str "ahead"), some (false, .list (doms.map eDm)), some (false, .dict kvs), some (false, .int (1 + r1)), some (false, .list (row.map .str)), some (false, .list (one.map .str)), some (false, .list (rest.map .str)), some (true, .list (ot.map .str)), some (false, .str x), some (false, .list (lk.map .str)), none, none, none, none]) (fun y => !decide (y ∈ ot)) .str (by omega) rfl (fun y hy ρ e => ?_) fun ρ e => ?_
        · subst e
          top_reprB
          refine w_notInS (hrs y (hr2 y hy)) hots ?_
          top_reprB
          all_goals rfl
        subst e
        have hfl : 0 < (rest.filter fun y => !decide (y ∈ ot)).length := by
          rcases Nat.eq_zero_or_pos (rest.filter fun y => !decide (y ∈ ot)).length with h0 | h0
          · exfalso
            have h1 := List.eq_nil_of_length_eq_zero h0
            have h2 : ∀ y ∈ rest, y ∈ ot := fun y hy => by
              have := List.filter_eq_nil_iff.mp h1 y hy
              simpa using this
            have := nodup_len rest ot hr3 h2
            omega
          · exact h0
        have hfm : ∀ y ∈ rest.filter (fun y => !decide (y ∈ ot)), y ∈ row := fun y hy => hr2 y (List.mem_filter.mp hy).1
        generalize rest.filter (fun y => !decide (y ∈ ot)) = fr at *
        top_reprB
        rename_i z hz
        exact fin z _ _ (hfm z (List.mem_of_getElem? hz))
      · have hl0 : 0 < lk.length := by
          cases lk with
          | nil => cases hE
          | cons _ _ => simp
        top_reprB
        rename_i z hz
        exact fin z _ _ (e2 z (List.mem_of_getElem? hz))
    · obtain ⟨s3, ot, a, b, rfl, h3, g1, g2⟩ := hρ
      top_reprB
      exact q (.ahead one ot) s3 h3 ⟨by omega, g1, fun x hx => hrd x (ho2 x hx), fun x hx => hrd x (g2 x hx)⟩
  · top_reprB
    refine machine_w hs (by omega) hd hdv hk fun S s1 h1 hS => ?_
    top_reprB
    exact q S s1 h1 hS
end K05W

set_option Elab.async false
set_option linter.all false
set_option maxRecDepth 100000
set_option maxHeartbeats 4000000
namespace K05W
open PySem PySem.Spec PyProof.Rows L2 GxR GenX OwnK PD
/-! P10: what is asked of drawn domains -/
local macro_rules | `(tactic| tb_rel) => `(tactic| simp -dsimp only [q_runD, q_runN, W_seq, q_asg, q_ifS, q_ret, q_drop, W_next, W_break, W_cont, q_for, q_put, q_aug, q_augL, q_mut, q_par, q_bin, q_un, q_app, q_nil, q_cons, q_consIo, q_call, q_callK, q_tab, q_if, q_andT, q_orT, q_notT, q_andV, q_orV, q_notV, q_mB, q_mP, q_noP, q_sl, q_items, q_range, q_chain, q_get2, q_lc, q_dc, q_an, q_su, q_mC, W_some, W_none, W_ite, q_some, q_none, q_ite, W_map, W_bind, bcs_true, bcs_false, bcs_dec, bcs_not, seqQ_nx, seqQ_rt, seqQ_bk, seqQ_ct, forQ_nx, forQ_rt, forQ_bk, forQ_ct, rQ_nx, rQ_rt, rQN_rt, boolQ_bool, intQ_int, strQ_str, dictQ_dict, ownQ_true, borQ_false, list2Q_eq, mFrz_eq, mVar, mOwn, mYes, gSet, gOwn, gTupT, gsCons, gsNil, putBack, wipeR, startR, ioR, backR_eq, backRl, slotD_some, slotD_none, gAdd_ii, gSub_ii, gAddI, gSubI, gLt, gLe, gGt, gGe, gEq_ii, gNe_ii, gInt, gLen_l, gLen_t, gLen_d, gAbs, gMax2, gMin2, keyD_i, keyD_s, gItems_l, gItems_t, gNeg, gListOf, gTupOf, gSl_l, gSl_t, gIs, gIsNot, isN, gMul_s0, gMul_s1, gIxL, gIx_l, gIx_t, gIx_di, gIx_ds, gPow_1018, atI_0, atI_1, atI_2, atI_3, atI_4, atI_5, atI_6, atI_7, gPutL_0, gPutL_1, gPutL_2, gPutL_3, gPutL_4, gPutL_5,
  List.getElem?_cons_zero, List.getElem?_cons_succ, List.set_cons_zero, List.set_cons_succ, List.length_cons, List.length_nil, List.cons_append, List.nil_append, List.replicate, List.map_cons, List.map_nil, Nat.reduceAdd, Nat.reduceSub, Nat.reduceLT, Nat.reduceLeDiff, Nat.zero_add, ↓reduceIte, Nat.lt_add_one, Nat.succ_eq_add_one, List.mem_cons, List.not_mem_nil, or_false, or_true, true_and, and_true, not_true_eq_false, not_false_eq_true, forall_const, decide_true, decide_false, decide_eq_true_eq, reduceCtorEq, ne_eq])
local macro_rules | `(tactic| allgen_close2_more) => `(tactic| first | omega | (simp only [List.length_append, List.length_cons, List.length_nil, List.length_map, List.length_range] at *; omega) | (simp only [len_app, len_one, len_empty] at *; omega))
local macro_rules | `(tactic| tb_start) => `(tactic| first
  | (with_reducible refine w_mul ?hh ?_; (case hh => first | omega | (left; omega) | (right; omega)))
  | (with_reducible refine w_mod ?hh ?_; (case hh => omega); intro _ _)
  | (with_reducible refine w_div ?hh ?hj ?_; (case hh => omega); (case hj => omega))
  | (with_reducible refine wr1 ?hh ?hj ?_; (case hh => allgen_close2_more); (case hj => allgen_close2_more))
  | (with_reducible refine W_atM ?hh ?hj ?_; (case hh => omega); (case hj => allgen_close2_more); intro _ _)
  | (with_reducible refine W_atL ?hh ?hj ?_; (case hh => omega); (case hj => allgen_close2_more); intro _ _)
  | (with_reducible refine w_putM ?hh ?hj ?_; (case hh => omega); (case hj => allgen_close2_more))
  | (with_reducible refine w_app ?hh ?_; (case hh => allgen_close2_more))
  | (with_reducible refine w_addS ?hh ?_; (case hh => allgen_close2_more))
  | (with_reducible refine w_slS ?hh ?_; (case hh => allgen_close2_more))
  | (with_reducible refine w_addL ?hh ?_; (case hh => allgen_close2_more))
  | (with_reducible refine w_addT ?hh ?_; (case hh => allgen_close2_more))
  | (with_reducible refine w_gLst ?hh ?_; (case hh => (simp; done)))
  | (with_reducible refine w_gTup ?hh ?_; (case hh => (simp; done)))
  | (with_reducible refine w_eq (a := ?aa) ?hh ?_; (case hh => with_reducible assumption))
  | (with_reducible refine w_eqS true ?hh ?_; (case hh => decide +kernel))
  | (with_reducible refine w_eqS false ?hh ?_; (case hh => decide +kernel))
  | (with_reducible refine w_lookT ?hh ?_; (case hh => decide +kernel))
  | (with_reducible refine w_lookF ?hh ?_; (case hh => decide +kernel))
  | (with_reducible refine w_lenSet ?hh ?_; (case hh => allgen_close2_more))
  | with_reducible refine w_tcount ?_
  | with_reducible refine w_sum ?_
  | with_reducible refine w_sorted ?_
  | allgen_close_more)
local macro_rules | `(tactic| top_reprB) => `(tactic| repeat' (first | tb_rel | tb_start | intro _ | (with_reducible refine And.intro ?_ ?_)))
local macro_rules | `(tactic| allgen_close_more) => `(tactic| (with_reducible refine mixed_w _ _ ?_; intro _))
local macro_rules | `(tactic| allgen_close_more) => `(tactic| (with_reducible refine take_w ?h1 ?h2 ?h3 ?_; (case h1 => assumption); (case h2 => allgen_close2_more); (case h3 => allgen_close2_more); intro _ _ _ _ _))
local macro_rules | `(tactic| allgen_close_more) => `(tactic| (with_reducible refine pick_w ?h1 ?h2 ?h3 ?_; (case h1 => assumption); (case h2 => allgen_close2_more); (case h3 => allgen_close2_more); intro _ _ _ _))
local macro_rules | `(tactic| allgen_close_more) => `(tactic| (with_reducible refine pickT_w ?h1 ?h2 ?h3 ?_; (case h1 => assumption); (case h2 => allgen_close2_more); (case h3 => allgen_close2_more); intro _ _ _ _))
local macro_rules | `(tactic| allgen_close_more) => `(tactic| (with_reducible refine shuffled_w ?h1 ?h3 ?_; (case h1 => assumption); (case h3 => allgen_close2_more); intro _ _ _ _))
local macro_rules | `(tactic| allgen_close_more) => `(tactic| (with_reducible refine shufM_w ?h1 ?h3 ?_; (case h1 => assumption); (case h3 => allgen_close2_more); intro _ _ _ _))
local macro_rules | `(tactic| allgen_close_more) => `(tactic| (with_reducible refine pickM_w ?h1 ?h2 ?h3 ?_; (case h1 => assumption); (case h2 => allgen_close2_more); (case h3 => allgen_close2_more); intro _ _ _ _))
local macro_rules | `(tactic| allgen_close_more) => `(tactic| (with_reducible refine pickMT_w ?h1 ?h2 ?h3 ?_; (case h1 => assumption); (case h2 => allgen_close2_more); (case h3 => allgen_close2_more); intro _ _ _ _))
local macro_rules | `(tactic| allgen_close_more) => `(tactic| ((first | with_reducible refine id_wp ?_ | with_reducible refine id_wq ?_); simp -dsimp only [eDm, eFs]))
local macro_rules | `(tactic| allgen_close_more) => `(tactic| (with_reducible refine pickN_w ?h1 ?h2 ?h3 ?h4 ?_; (case h1 => assumption); (case h2 => allgen_close2_more); (case h3 => allgen_close2_more); (case h4 => (simp only [allI, and_self]; done)); intro _ _ _ hm; simp only [List.mem_cons, PyData.int.injEq, List.not_mem_nil, or_false] at hm))
local macro_rules | `(tactic| allgen_close_more) => `(tactic| with_reducible refine bcs_mk ?_ ?_)
theorem SyOk.mono {dom dom' : List Str} {S : Sy} (h : SyOk dom S) (k : ∀ x ∈ dom, x ∈ dom') : SyOk dom' S := by
  cases S with
  | product a b c => exact ⟨k a h.1, k b h.2.1, k c h.2.2⟩
  | ahead xs ys => exact ⟨h.1, h.2.1, fun x hx => k x (h.2.2.1 x hx), fun x hx => k x (h.2.2.2 x hx)⟩
  | machine xs st0 mvs ends => exact ⟨h.1, h.2.1, h.2.2.1, fun x hx => k x (h.2.2.2.1 x hx), h.2.2.2.2⟩
def m_tail : MS :=
  (mSeq (mAsg (mCall f__law_shuffled [some 1, none] (mConsIo 1 (mCons (mFrz 6) mNil))) (gSet 9))
  (mSeq (mAsg (mApp gTupOf (mCons (mLc (mItems (mFrz 9)) (gSet 17) mYes (mCall f__law_pick [some 1, none] (mConsIo 1 (mCons (mBin gIx (mFrz 17) (mC (.int 1))) mNil))) [17]) mNil)) (gSet 10))
  (mSeq (mAsg (mCall f__law_world [none, none] (mCons (mFrz 9) (mCons (mFrz 10) mNil))) (gSet 11))
  (mSeq (mAsg (mBin gAdd (mCall f__law_shuffled [some 1, none] (mConsIo 1 (mCons (mApp gLstD (mCons (mC (.str "product")) (mCons (mC (.str "ahead")) (mCons (mC (.str "machine")) (mCons (mC (.str "machine")) mNil))))) mNil))) (mApp gLstD (mCons (mCall f__law_pick [some 1, none] (mConsIo 1 (mCons (mApp gLstD (mCons (mC (.str "product")) (mCons (mC (.str "ahead")) (mCons (mC (.str "machine")) mNil)))) mNil))) mNil))) (gSet 12))
  (mSeq (mAsg (mLc (mRange gRange1 (mCons (mC (.int 5)) mNil)) (gSet 7) mYes (mApp gTupD (mCons (mBin gIx (mFrz 4) (mBin gAdd (mApp gLen (mCons (mFrz 3) mNil)) (mFrz 7))) (mCons (mCall f__law_saying [some 1, none, none, none] (mConsIo 1 (mCons (mBin gIx (mFrz 12) (mFrz 7)) (mCons (mFrz 6) (mCons (mFrz 11) mNil))))) mNil))) [7]) (gSet 13))
  (mSeq (mAsg (mCall f__law_parted [some 1, none, none] (mConsIo 1 (mCons (mFrz 13) (mCons (mFrz 11) mNil)))) (gSet 14))
  (mSeq (mAsg (mIf (mNotT (mB (mFrz 2))) (mCall f__law_fillings [none] (mCons (mFrz 9) mNil)) (mBin gAdd (mApp gLstD (mCons (mFrz 10) mNil)) (mLc (mRange gRange1 (mCons (mC (.int 30)) mNil)) (gSet 7) mYes (mCall f__law_near [some 1, none, none] (mConsIo 1 (mCons (mFrz 9) (mCons (mFrz 10) mNil)))) [7]))) (gSet 15))
  (mSeq (mRet (mCall f__law_by_turns [some 1, none, none, none, none, none, none] (mConsIo 1 (mCons (mFrz 9) (mCons (mFrz 13) (mCons (mBin gIx (mFrz 14) (mC (.int 0))) (mCons (mBin gIx (mFrz 14) (mC (.int 1))) (mCons (mFrz 15) (mCons (mFrz 10) mNil)))))))))
  mNext))))))))
theorem tail_w {s : D} {g : Bool} {ns ss : List Int} {low : Int} {dl : List (Str × List Int)} {zs : List Str} {za zb : Option (Bool × D)} (hs : Sd s) (hd0 : 3 ≤ dl.length) (hd : dl.length ≤ 24) (hsm : ∀ d ∈ dl.take 3, d.2.length ≤ 6) (hdv : ∀ d ∈ dl, 0 < d.2.length ∧ d.2.length ≤ 12 ∧ (g = false → d.2.length ≤ 5) ∧ ∀ v ∈ d.2, Bd v) (hg : g = false → dl.length ≤ 6) (hst : ∀ d ∈ dl, PyData.strOk d.1 = true) (hnd : (dl.map (·.1)).Nodup)
    (hzl : zs.length = ss.length + 5) (hzn : zs.Nodup) (hzo : ∀ z ∈ zs, PyData.strOk z = true) (hsl : ss.length ≤ 24) {Q : D → List D → Prop} (q : ∀ es, es.length = 1 → Q (.bool true) es) :
    Wp (m_tail [some (false, .list (ns.map .int)), some (true, s), some (false, .bool g), some (false, .list (ss.map .int)), some (false, .list (zs.map .str)), some (false, .int low), some (true, .list (dl.map eDm)), za, zb, none, none, none, none, none, none, none, none, none]) (rQ 1 Q) := by
  unfold m_tail
  top_reprB
  rename_i od s1 h1 hpo
  have hol := hpo.length_eq
  have ho8 : ∀ d ∈ od, 0 < d.2.length ∧ d.2.length ≤ 12 ∧ (g = false → d.2.length ≤ 5) ∧ ∀ v ∈ d.2, Bd v := fun d hd => hdv d (hpo.mem_iff.mp hd)
  have hd2 : ∀ d ∈ od, 0 < d.2.length ∧ d.2.length ≤ 12 ∧ ∀ v ∈ d.2, Bd v := fun d hd => ⟨(ho8 d hd).1, (ho8 d hd).2.1, (ho8 d hd).2.2.2⟩
  have hdd : ∀ d ∈ dl, 0 < d.2.length ∧ d.2.length ≤ 12 ∧ ∀ v ∈ d.2, Bd v := fun d hd => ⟨(hdv d hd).1, (hdv d hd).2.1, (hdv d hd).2.2.2⟩
  have hdo : ∀ x ∈ dl.map (·.1), x ∈ od.map (·.1) := fun x hx => (hpo.map (·.1)).mem_iff.mpr hx
  refine q_lcE od eDm (fun ρ => ∃ s', Sd s' ∧ ρ = [some (false, .list (ns.map .int)), some (true, s'), some (false, .bool g), some (false, .list (ss.map .int)), some (false, .list (zs.map .str)), some (false, .int low), some (false, .list (dl.map eDm)), za, zb, some (false, .list (od.map eDm)), none, none, none, none, none, none, none, none]) .int (fun d v => v ∈ d.2) (by omega) ⟨_, h1, rfl⟩ (fun d hd ρ ⟨s7, h9, e⟩ => ?_) fun bs ρ hl hP hρ => ?_
  · subst e
    have hd3 := hd2 d hd
    top_reprB
    · rename_i v _ _ hv
      exact ⟨v, rfl, hv⟩
    · exact ⟨_, by assumption, rfl⟩
  clear h1 s1
  obtain ⟨s1, h1, rfl⟩ := hρ
  have hbd : ∀ v ∈ bs, Bd v := fun v hv => by
    obtain ⟨i, hi, e⟩ := List.mem_iff_getElem.mp hv
    have hd := List.getElem?_eq_getElem (show i < od.length by omega)
    exact (hd2 _ (List.mem_of_getElem? hd)).2.2 v (hP i _ v hd (by rw [List.getElem?_eq_getElem hi, e]))
  top_reprB
  refine world_w hl (by omega) ?_
  have hW : AtOk (kvsOf ((od.map (·.1)).zip bs)) (dl.map (·.1)) := fun x hx => wk_ok hl hbd x (hdo x hx)
  generalize kvsOf ((od.map (·.1)).zip bs) = kvs at *
  top_reprB
  rename_i es sA hA hpm r9 sB hB hr9
  have hlit : ∀ d ∈ [PyData.str "product", PyData.str "ahead", PyData.str "machine", PyData.str "machine"], ∃ z, d = .str z ∧ Kd z := fun d hd => by
    simp only [List.mem_cons, List.not_mem_nil, or_false] at hd
    rcases hd with e | e | e | e
    · exact ⟨_, e, .inl rfl⟩
    · exact ⟨_, e, .inr (.inl rfl)⟩
    · exact ⟨_, e, .inr (.inr rfl)⟩
    · exact ⟨_, e, .inr (.inr rfl)⟩
  obtain ⟨ks, rfl, hks⟩ := perm_map (f := PyData.str) hpm ([("product" : Str), "ahead", "machine", "machine"] : List Str) rfl
  obtain ⟨z9, rfl, hz9⟩ := hlit r9 (by
    simp only [List.mem_cons, List.not_mem_nil, or_false] at hr9 ⊢
    rcases hr9 with e | e | e <;> simp [e])
  have hkl := hks.length_eq
  refine w_addL (by simp only [List.length_map, List.length_cons, List.length_nil] at *; omega) ?_
  rw [show ks.map PyData.str ++ [PyData.str z9] = (ks ++ [z9]).map PyData.str by simp]
  have hkd : ∀ z ∈ ks ++ [z9], Kd z := fun z hz => by
    rcases List.mem_append.mp hz with hz | hz
    · obtain ⟨y, e, hy⟩ := hlit (.str z) (hpm.mem_iff.mp (List.mem_map.mpr ⟨z, hz, rfl⟩))
      cases e; exact hy
    · rw [List.mem_singleton.mp hz]; exact hz9
  have hkl : (ks ++ [z9]).length = 5 := by rw [List.length_append, hkl]; rfl
  generalize ks ++ [z9] = kds at *
  top_reprB
  refine q_lcE (List.range (Int.toNat 5)) (fun i => .int (0 + (i : Nat))) (fun ρ => ∃ s' y, Sd s' ∧ ρ = [some (false, .list (ns.map .int)), some (true, s'), some (false, .bool g), some (false, .list (ss.map .int)), some (false, .list (zs.map .str)), some (false, .int low), some (false, .list (dl.map eDm)), y, zb, some (false, .list (od.map eDm)), some (false, eRow bs), some (false, .dict kvs), some (false, .list (kds.map .str)), none, none, none, none, none]) eFs (fun i p => zs[ss.length + i]? = some p.1 ∧ SyOk (dl.map (·.1)) p.2) (by decide) ⟨_, _, hB, rfl⟩ (fun i hi ρ ⟨s7, y7, h9, e⟩ => ?_) fun made ρ hl2 hP2 hρ => ?_
  · subst e
    have hi : i < 5 := by simpa using hi
    top_reprB
    rename_i x hx z hz
    refine saying_w h9 (hkd z (List.mem_of_getElem? hz)) hd0 hd hsm hdd hst hnd hW fun S s8 h10 hS => ?_
    top_reprB
    · exact ⟨(x, S), rfl, by rw [← hx]; congr 1; rw [List.length_map]; omega, hS⟩
    · exact ⟨_, _, h10, rfl⟩
  clear hA hB sA sB
  obtain ⟨s2, y2, h2, rfl⟩ := hρ
  have hml : made.length = 5 := by rw [hl2]; rfl
  have hmS : ∀ p ∈ made, SyOk (dl.map (·.1)) p.2 ∧ PyData.strOk p.1 = true := fun p hp => by
    obtain ⟨i, hi, e⟩ := List.mem_iff_getElem.mp hp
    have := hP2 i i p (List.getElem?_range (by rw [hml] at hi; exact hi)) (by rw [List.getElem?_eq_getElem hi, e])
    exact ⟨this.2, hzo _ (List.mem_of_getElem? this.1)⟩
  have hmn : (made.map (·.1)).Nodup := by
    rw [List.nodup_iff_pairwise_ne, List.pairwise_iff_getElem]
    intro i j hi hj hij e
    simp only [List.length_map] at hi hj
    simp only [List.getElem_map] at e
    have h1 := (hP2 i i made[i] (List.getElem?_range (by rw [hml] at hi; exact hi)) (List.getElem?_eq_getElem hi)).1
    have h2 := (hP2 j j made[j] (List.getElem?_range (by rw [hml] at hj; exact hj)) (List.getElem?_eq_getElem hj)).1
    obtain ⟨l1, e1⟩ := List.getElem?_eq_some_iff.mp h1
    obtain ⟨l2, e2⟩ := List.getElem?_eq_some_iff.mp h2
    have := nd_inj hzn l1 l2 (by rw [e1, e2, e])
    omega
  have hxs : ∀ x ∈ dl.map (·.1), PyData.strOk x = true := fun x hx => by
    obtain ⟨d, hd, rfl⟩ := List.mem_map.mp hx
    exact hst d hd
  top_reprB
  refine parted_w h2 (by omega) (by omega) hmn hmS hW hxs fun fl soft s14 h16 hfl hsl hnn hS => ?_
  have hS2 : ∀ p ∈ fl ++ soft, SyOk (od.map (·.1)) p.2 := fun p hp => (hS p hp).mono hdo
  have hmS2 : ∀ p ∈ made, SyOk (od.map (·.1)) p.2 := fun p hp => (hmS p hp).1.mono hdo
  have hod0 : 0 < od.length := by omega
  have hod1 : od.length ≤ 24 := by omega
  top_reprB
  · refine q_lcE (List.range (Int.toNat 30)) (fun i => .int (0 + (i : Nat))) (fun ρ => ∃ s' y, Sd s' ∧ ρ = [some (false, .list (ns.map .int)), some (true, s'), some (false, .bool g), some (false, .list (ss.map .int)), some (false, .list (zs.map .str)), some (false, .int low), some (false, .list (dl.map eDm)), y, zb, some (false, .list (od.map eDm)), some (false, eRow bs), some (false, .dict kvs), some (false, .list (kds.map .str)), some (false, .list (made.map eFs)), some (false, .list [.list (fl.map eFs), .list (soft.map eFs)]), none, none, none]) eRow (fun i r => r.length = od.length ∧ ∀ v ∈ r, Bd v) (by decide) ⟨_, _, h16, rfl⟩ (fun i hi ρ ⟨s4, y4, h4, e⟩ => ?_) (fun rows ρ hl hP hρ => ?_)
    · subst e
      tb_rel
      refine near_w h4 hod0 hod1 hd2 (by omega) hbd fun us s5 h5 h6 h7 => ?_
      top_reprB
      · exact ⟨us, rfl, h6, h7⟩
      · exact ⟨_, _, h5, rfl⟩
    obtain ⟨s4, y4, h4, rfl⟩ := hρ
    rw [List.length_range] at hl
    have hl24 : rows.length = 30 := hl
    have hP2 : ∀ r ∈ rows, r.length = od.length ∧ ∀ v ∈ r, Bd v := fun r hr => by
      obtain ⟨i, hi, e⟩ := List.mem_iff_getElem.mp hr
      exact hP i i r (List.getElem?_range (by omega)) (by rw [List.getElem?_eq_getElem hi, e])
    refine w_addL (by rw [List.length_map]; simp only [List.length_cons, List.length_nil]; omega) ?_
    rw [show [eRow bs] ++ rows.map eRow = (bs :: rows).map eRow from rfl]
    top_reprB
    refine by_turns_w (rows := bs :: rows) (base := bs) h4 hod0 hod1 hd2 hml hmn hmS2 hfl hsl hnn hS2 (by rw [List.length_cons]; omega) (fun r hr => ?_) ⟨by omega, hbd⟩ fun es he => ?_
    · rcases List.mem_cons.mp hr with hr | hr
      · rw [hr]; exact ⟨by omega, hbd⟩
      · exact hP2 r hr
    top_reprB
    · exact he
    · exact q _ (backRl_get 1 _).1
  · rename_i hgf
    refine fillings_w (by have := hg hgf; omega) (fun d hd => (ho8 d hd).2.2.1 hgf) (fun d hd => (ho8 d hd).2.2.2) fun rows hrl hr => ?_
    top_reprB
    refine by_turns_w (base := bs) h16 hod0 hod1 hd2 hml hmn hmS2 hfl hsl hnn hS2 (by omega) hr ⟨by omega, hbd⟩ fun es he => ?_
    top_reprB
    · exact he
    · exact q _ (backRl_get 1 _).1
end K05W

set_option Elab.async false
set_option linter.all false
set_option maxRecDepth 100000
set_option maxHeartbeats 4000000
namespace K05W
open PySem PySem.Spec PyProof.Rows L2 GxR GenX OwnK PD
/-! P11: the law -/
local macro_rules | `(tactic| tb_rel) => `(tactic| simp -dsimp only [q_runD, q_runN, W_seq, q_asg, q_ifS, q_ret, q_drop, W_next, W_break, W_cont, q_for, q_put, q_aug, q_augL, q_mut, q_par, q_bin, q_un, q_app, q_nil, q_cons, q_consIo, q_call, q_callK, q_tab, q_if, q_andT, q_orT, q_notT, q_andV, q_orV, q_notV, q_mB, q_mP, q_noP, q_sl, q_items, q_range, q_chain, q_get2, q_lc, q_dc, q_an, q_su, q_mC, W_some, W_none, W_ite, q_some, q_none, q_ite, W_map, W_bind, bcs_true, bcs_false, bcs_dec, bcs_not, seqQ_nx, seqQ_rt, seqQ_bk, seqQ_ct, forQ_nx, forQ_rt, forQ_bk, forQ_ct, rQ_nx, rQ_rt, rQN_rt, boolQ_bool, intQ_int, strQ_str, dictQ_dict, ownQ_true, borQ_false, list2Q_eq, mFrz_eq, mVar, mOwn, mYes, gSet, gOwn, gTupT, gsCons, gsNil, putBack, wipeR, startR, ioR, backR_eq, backRl, slotD_some, slotD_none, gAdd_ii, gSub_ii, gAddI, gSubI, gLt, gLe, gGt, gGe, gEq_ii, gNe_ii, gInt, gLen_l, gLen_t, gLen_d, gAbs, gMax2, gMin2, keyD_i, keyD_s, gItems_l, gItems_t, gNeg, gListOf, gTupOf, gSl_l, gSl_t, gIs, gIsNot, isN, gMul_s0, gMul_s1, gIxL, gIx_l, gIx_t, gIx_di, gIx_ds, gPow_1018, atI_0, atI_1, atI_2, atI_3, atI_4, atI_5, atI_6, atI_7, gPutL_0, gPutL_1, gPutL_2, gPutL_3, gPutL_4, gPutL_5,
  List.getElem?_cons_zero, List.getElem?_cons_succ, List.set_cons_zero, List.set_cons_succ, List.length_cons, List.length_nil, List.cons_append, List.nil_append, List.replicate, List.map_cons, List.map_nil, Nat.reduceAdd, Nat.reduceSub, Nat.reduceLT, Nat.reduceLeDiff, Nat.zero_add, ↓reduceIte, Nat.lt_add_one, Nat.succ_eq_add_one, List.mem_cons, List.not_mem_nil, or_false, or_true, true_and, and_true, not_true_eq_false, not_false_eq_true, forall_const, decide_true, decide_false, decide_eq_true_eq, reduceCtorEq, ne_eq])
local macro_rules | `(tactic| allgen_close2_more) => `(tactic| first | omega | (simp only [List.length_append, List.length_cons, List.length_nil, List.length_map, List.length_range] at *; omega) | (simp only [len_app, len_one, len_empty] at *; omega))
local macro_rules | `(tactic| tb_start) => `(tactic| first
  | (with_reducible refine w_mul ?hh ?_; (case hh => first | omega | (left; omega) | (right; omega)))
  | (with_reducible refine w_mod ?hh ?_; (case hh => omega); intro _ _)
  | (with_reducible refine w_div ?hh ?hj ?_; (case hh => omega); (case hj => omega))
  | (with_reducible refine wr1 ?hh ?hj ?_; (case hh => allgen_close2_more); (case hj => allgen_close2_more))
  | (with_reducible refine W_atM ?hh ?hj ?_; (case hh => omega); (case hj => allgen_close2_more); intro _ _)
  | (with_reducible refine W_atL ?hh ?hj ?_; (case hh => omega); (case hj => allgen_close2_more); intro _ _)
  | (with_reducible refine w_putM ?hh ?hj ?_; (case hh => omega); (case hj => allgen_close2_more))
  | (with_reducible refine w_app ?hh ?_; (case hh => allgen_close2_more))
  | (with_reducible refine w_addS ?hh ?_; (case hh => allgen_close2_more))
  | (with_reducible refine w_slS ?hh ?_; (case hh => allgen_close2_more))
  | (with_reducible refine w_addL ?hh ?_; (case hh => allgen_close2_more))
  | (with_reducible refine w_addT ?hh ?_; (case hh => allgen_close2_more))
  | (with_reducible refine w_gLst ?hh ?_; (case hh => (simp; done)))
  | (with_reducible refine w_gTup ?hh ?_; (case hh => (simp; done)))
  | (with_reducible refine w_eq (a := ?aa) ?hh ?_; (case hh => with_reducible assumption))
  | (with_reducible refine w_eqS true ?hh ?_; (case hh => decide +kernel))
  | (with_reducible refine w_eqS false ?hh ?_; (case hh => decide +kernel))
  | (with_reducible refine w_lookT ?hh ?_; (case hh => decide +kernel))
  | (with_reducible refine w_lookF ?hh ?_; (case hh => decide +kernel))
  | (with_reducible refine w_lenSet ?hh ?_; (case hh => allgen_close2_more))
  | with_reducible refine w_tcount ?_
  | with_reducible refine w_sum ?_
  | with_reducible refine w_sorted ?_
  | allgen_close_more)
local macro_rules | `(tactic| top_reprB) => `(tactic| repeat' (first | tb_rel | tb_start | intro _ | (with_reducible refine And.intro ?_ ?_)))
local macro_rules | `(tactic| allgen_close_more) => `(tactic| (with_reducible refine mixed_w _ _ ?_; intro _))
local macro_rules | `(tactic| allgen_close_more) => `(tactic| (with_reducible refine take_w ?h1 ?h2 ?h3 ?_; (case h1 => assumption); (case h2 => allgen_close2_more); (case h3 => allgen_close2_more); intro _ _ _ _ _))
local macro_rules | `(tactic| allgen_close_more) => `(tactic| (with_reducible refine pick_w ?h1 ?h2 ?h3 ?_; (case h1 => assumption); (case h2 => allgen_close2_more); (case h3 => allgen_close2_more); intro _ _ _ _))
local macro_rules | `(tactic| allgen_close_more) => `(tactic| (with_reducible refine pickT_w ?h1 ?h2 ?h3 ?_; (case h1 => assumption); (case h2 => allgen_close2_more); (case h3 => allgen_close2_more); intro _ _ _ _))
local macro_rules | `(tactic| allgen_close_more) => `(tactic| (with_reducible refine shuffled_w ?h1 ?h3 ?_; (case h1 => assumption); (case h3 => allgen_close2_more); intro _ _ _ _))
local macro_rules | `(tactic| allgen_close_more) => `(tactic| (with_reducible refine shufM_w ?h1 ?h3 ?_; (case h1 => assumption); (case h3 => allgen_close2_more); intro _ _ _ _))
local macro_rules | `(tactic| allgen_close_more) => `(tactic| (with_reducible refine pickM_w ?h1 ?h2 ?h3 ?_; (case h1 => assumption); (case h2 => allgen_close2_more); (case h3 => allgen_close2_more); intro _ _ _ _))
local macro_rules | `(tactic| allgen_close_more) => `(tactic| (with_reducible refine pickMT_w ?h1 ?h2 ?h3 ?_; (case h1 => assumption); (case h2 => allgen_close2_more); (case h3 => allgen_close2_more); intro _ _ _ _))
local macro_rules | `(tactic| allgen_close_more) => `(tactic| ((first | with_reducible refine id_wp ?_ | with_reducible refine id_wq ?_); simp -dsimp only [eDm, eFs]))
local macro_rules | `(tactic| allgen_close_more) => `(tactic| (with_reducible refine pickN_w ?h1 ?h2 ?h3 ?h4 ?_; (case h1 => assumption); (case h2 => allgen_close2_more); (case h3 => allgen_close2_more); (case h4 => (simp only [allI, and_self]; done)); intro _ _ _ hm; simp only [List.mem_cons, PyData.int.injEq, List.not_mem_nil, or_false] at hm))
local macro_rules | `(tactic| allgen_close_more) => `(tactic| with_reducible refine bcs_mk ?_ ?_)
theorem seq_cut {m1 m2 : MS} {ρ : Rho} {QS : Out → Prop} (J : Rho → Prop) (h1 : Wp (m1 ρ) (seqQ J fun _ => False)) (h2 : ∀ ρ', J ρ' → Wp (m2 ρ') QS) : Wp (mSeq m1 m2 ρ) QS := W_seq.mpr (h1.mono fun o ho => by
  cases o with
  | nx ρ' => exact h2 ρ' ho
  | _ => exact ho.elim)
theorem take_more {zs : List Str} {k : Nat} {x : Str} (h : zs[k]? = some x) : zs.take (k + 1) = zs.take k ++ [x] := by
  rw [List.take_succ, h]; rfl
theorem app_facts {α : Type} {P : Nat → α → Prop} {l : List α} {p : α} (h : ∀ j d, l[j]? = some d → P j d) (hp : P l.length p) : ∀ j d, (l ++ [p])[j]? = some d → P j d := fun j d e => by
  by_cases hj : j < l.length
  · rw [List.getElem?_append_left hj] at e
    exact h j d e
  · obtain ⟨hlt, _⟩ := List.getElem?_eq_some_iff.mp e
    rw [List.length_append, List.length_singleton] at hlt
    have : j = l.length := by omega
    subst this
    rw [List.getElem?_append_right (Nat.le_refl _), Nat.sub_self] at e
    cases e
    exact hp
theorem law_w {ns : List Int} (h : ns.length ≤ 63) {Q : D → List D → Prop} (q : ∀ es, es.length = 1 → Q (.bool true) es) : PD.Wq (f_law [.list (ns.map .int)]) Q := by
  unfold f_law m_law
  simp only [q_runD]
  refine seq_cut (fun ρ => ∃ s0, Sd s0 ∧ ρ = [some (false, .list (ns.map .int)), some (true, s0), none, none, none, none, none, none, none, none, none, none, none, none, none, none, none, none]) ?_ fun ρ hρ => ?_
  · tb_rel
    refine start_w h fun s0 h0 => ?_
    top_reprB
    exact ⟨s0, h0, rfl⟩
  obtain ⟨s0, h0, rfl⟩ := hρ
  refine seq_cut (fun ρ => ∃ s1 g, Sd s1 ∧ ρ = [some (false, .list (ns.map .int)), some (true, s1), some (false, .bool g), none, none, none, none, none, none, none, none, none, none, none, none, none, none, none]) ?_ fun ρ hρ => ?_
  · top_reprB
    exact ⟨_, _, by assumption, rfl⟩
  obtain ⟨s1, g, h1, rfl⟩ := hρ
  clear h0 s0
  refine seq_cut (fun ρ => ∃ s2 ss, Sd s2 ∧ ρ = [some (false, .list (ns.map .int)), some (true, s2), some (false, .bool g), some (false, .list (List.map .int ss)), none, none, none, none, none, none, none, none, none, none, none, none, none, none] ∧ 3 ≤ ss.length ∧ ss.length ≤ 4 ∧ ∀ n ∈ ss, 1 ≤ n ∧ n ≤ 4) ?_ fun ρ hρ => ?_
  · top_reprB
    rename_i a s2 h2 a0 a1 b s3 h3 b0 b1 c s4 h4 c0 c1 e s5 h5 e0 e1
    refine q_lcE (List.range e.toNat) (fun i => .int (0 + (i : Nat))) (fun ρ => ∃ s6, Sd s6 ∧ ρ = [some (false, .list (ns.map .int)), some (true, s6), some (false, .bool g), none, none, none, none, none, none, none, none, none, none, none, none, none, none, none]) .int (fun _ v => 1 ≤ v ∧ v ≤ 2) (by rw [List.length_range]; omega) ⟨_, h5, rfl⟩ (fun i hi ρ ⟨s6, h6, e⟩ => ?_) fun vs ρ hl hP hρ => ?_
    · subst e
      top_reprB
      · exact ⟨_, rfl, by omega, by omega⟩
      · exact ⟨_, by assumption, rfl⟩
    obtain ⟨s6, h6, rfl⟩ := hρ
    rw [List.length_range] at hl
    refine w_addL (by rw [List.length_map]; simp only [List.length_cons, List.length_nil]; omega) ?_
    top_reprB
    refine ⟨s6, (1 + a) :: (1 + b) :: (1 + c) :: vs, h6, rfl, by simp, by simp; omega, fun n hn => ?_⟩
    simp only [List.mem_cons] at hn
    rcases hn with hn | hn | hn | hn
    · omega
    · omega
    · omega
    · obtain ⟨i, hi, e⟩ := List.mem_iff_getElem.mp hn
      have := hP i i n (List.getElem?_range (by omega)) (by rw [List.getElem?_eq_getElem hi, e])
      omega
  obtain ⟨s2, ss0, h2, rfl, l1, l2, l3⟩ := hρ
  clear h1 s1
  refine seq_cut (fun ρ => ∃ s2 ss b, Sd s2 ∧ ρ = [some (false, .list (ns.map .int)), some (true, s2), some (false, .bool g), some (false, .list (List.map .int ss)), none, none, none, b, none, none, none, none, none, none, none, none, none, none] ∧ 3 ≤ ss.length ∧ ss.length ≤ 24 ∧ (∀ n ∈ ss, 1 ≤ n ∧ n ≤ 12) ∧ (g = false → ss.length ≤ 4 ∧ ∀ n ∈ ss, n ≤ 4) ∧ ∀ n ∈ ss.take 3, n ≤ 6) ?_ fun ρ hρ => ?_
  · top_reprB
    · rename_i hg
      refine q_lcE (List.range (Int.toNat 4)) (fun i => .int (0 + (i : Nat))) (fun ρ => ∃ s6, Sd s6 ∧ ρ = [some (false, .list (ns.map .int)), some (true, s6), some (false, .bool g), some (false, .list (ss0.map .int)), none, none, none, none, none, none, none, none, none, none, none, none, none, none]) .int (fun _ v => 1 ≤ v ∧ v ≤ 6) (by decide) ⟨_, h2, rfl⟩ (fun i hi ρ ⟨s6, h6, e⟩ => ?_) fun vs ρ hl hP hρ => ?_
      · subst e
        top_reprB
        · exact ⟨_, rfl, by omega, by omega⟩
        · exact ⟨_, by assumption, rfl⟩
      obtain ⟨s6, h6, rfl⟩ := hρ
      have hl4 : vs.length = 4 := by rw [hl]; rfl
      have hv6 : ∀ n ∈ vs, 1 ≤ n ∧ n ≤ 6 := fun n hn => by
        obtain ⟨i, hi, e⟩ := List.mem_iff_getElem.mp hn
        rw [List.length_range] at hl
        exact hP i i n (List.getElem?_range (by omega)) (by rw [List.getElem?_eq_getElem hi, e])
      clear h2 s2
      top_reprB
      rename_i e s7 h7 e0 e1
      refine q_lcE (List.range (9 + e).toNat) (fun i => .int (0 + (i : Nat))) (fun ρ => ∃ s6, Sd s6 ∧ ρ = [some (false, .list (ns.map .int)), some (true, s6), some (false, .bool g), some (false, .list (ss0.map .int)), none, none, none, none, none, none, none, none, none, none, none, none, none, none]) .int (fun _ v => 1 ≤ v ∧ v ≤ 12) (by rw [List.length_range]; omega) ⟨_, h7, rfl⟩ (fun i hi ρ ⟨s6, h6, e⟩ => ?_) fun ws ρ hl2 hP2 hρ => ?_
      · subst e
        top_reprB
        · exact ⟨_, rfl, by omega, by omega⟩
        · exact ⟨_, by assumption, rfl⟩
      obtain ⟨s8, h8, rfl⟩ := hρ
      rw [List.length_range] at hl2
      have hw12 : ∀ n ∈ ws, 1 ≤ n ∧ n ≤ 12 := fun n hn => by
        obtain ⟨i, hi, e⟩ := List.mem_iff_getElem.mp hn
        exact hP2 i i n (List.getElem?_range (by omega)) (by rw [List.getElem?_eq_getElem hi, e])
      refine w_addL (by rw [List.length_map, List.length_map]; omega) ?_
      rw [← List.map_append]
      top_reprB
      refine ⟨s8, vs ++ ws, _, h8, rfl, by rw [List.length_append]; omega, by rw [List.length_append]; omega, fun n hn => ?_, (fun z => by rw [hg] at z; cases z), fun n hn => ?_⟩
      · rcases List.mem_append.mp hn with hn | hn
        · have := hv6 n hn; omega
        · exact hw12 n hn
      · rw [List.take_append_of_le_length (by omega)] at hn
        exact (hv6 n (List.mem_of_mem_take hn)).2
    · exact ⟨s2, ss0, _, h2, rfl, l1, by omega, fun n hn => ⟨(l3 n hn).1, by have := (l3 n hn).2; omega⟩, fun _ => ⟨l2, fun n hn => (l3 n hn).2⟩, fun n hn => by have := (l3 n (List.mem_of_mem_take hn)).2; omega⟩
  clear h2 s2 l1 l2 l3 ss0
  obtain ⟨s2, ss, b, h2, rfl, l1, l2, l3, l4, l5⟩ := hρ
  have hnum : 0 ≤ ((ss.map PyData.int).length : Int) + 5 ∧ ((ss.map PyData.int).length : Int) + 5 ≤ 32 := by rw [List.length_map]; omega
  refine seq_cut (fun ρ => ∃ s4 zs, Sd s4 ∧ ρ = [some (false, .list (ns.map .int)), some (true, s4), some (false, .bool g), some (false, .list (List.map .int ss)), some (false, .list (List.map .str zs)), none, none, b, none, none, none, none, none, none, none, none, none, none] ∧ zs.length = ss.length + 5 ∧ zs.Nodup ∧ ∀ z ∈ zs, PyData.strOk z = true) ?_ fun ρ hρ => ?_
  · top_reprB
    refine names_w h2 hnum.1 hnum.2 fun zs s4 h4 hzl hzn hzo => ?_
    rw [List.length_map] at hzl
    top_reprB
    exact ⟨s4, zs, h4, rfl, by omega, hzn, fun z hz => (hzo z hz).1⟩
  clear h2 s2
  obtain ⟨s4, zs, h4, rfl, hzl, hzn, hzo⟩ := hρ
  refine seq_cut (fun ρ => ∃ s5 low, Sd s5 ∧ ρ = [some (false, .list (ns.map .int)), some (true, s5), some (false, .bool g), some (false, .list (List.map .int ss)), some (false, .list (List.map .str zs)), some (false, .int low), none, b, none, none, none, none, none, none, none, none, none, none] ∧ -200 ≤ low ∧ low ≤ 188) ?_ fun ρ hρ => ?_
  · top_reprB
    exact ⟨_, _, by assumption, rfl, by omega, by omega⟩
  clear h4 s4
  obtain ⟨s4, low, h4, rfl, lo1, lo2⟩ := hρ
  refine seq_cut (fun ρ => ρ = [some (false, .list (ns.map .int)), some (true, s4), some (false, .bool g), some (false, .list (List.map .int ss)), some (false, .list (List.map .str zs)), some (false, .int low), some (true, .list []), b, none, none, none, none, none, none, none, none, none, none]) ?_ fun ρ hρ => ?_
  · top_reprB
    all_goals rfl
  subst hρ
  refine seq_cut (fun ρ => ∃ (s7 : D) (dl : List (Str × List Int)) (a b : Option (Bool × D)), Sd s7 ∧ ρ = [some (false, .list (ns.map .int)), some (true, s7), some (false, .bool g), some (false, .list (ss.map .int)), some (false, .list (zs.map .str)), some (false, .int low), some (true, .list (dl.map eDm)), a, b, none, none, none, none, none, none, none, none, none] ∧ dl.map (·.1) = (zs.drop 1).take (ss.length - 1) ∧ ∀ j d, dl[j]? = some d → (∃ sz, ss[1 + j]? = some sz ∧ d.2.length = sz.toNat) ∧ ∀ v ∈ d.2, Bd v) ?_ fun ρ hρ => ?_
  · top_reprB
    refine wr2 (by rw [List.length_map]; omega) ?_
    refine W_forR (fun k ρ => ∃ (s7 : D) (dl : List (Str × List Int)) (a b : Option (Bool × D)), ρ = [some (false, .list (ns.map .int)), some (true, s7), some (false, .bool g), some (false, .list (ss.map .int)), some (false, .list (zs.map .str)), some (false, .int low), some (true, .list (dl.map eDm)), a, b, none, none, none, none, none, none, none, none, none] ∧ Sd s7 ∧ dl.map (·.1) = (zs.drop 1).take k ∧ ∀ j d, dl[j]? = some d → (∃ sz, ss[1 + j]? = some sz ∧ d.2.length = sz.toNat) ∧ ∀ v ∈ d.2, Bd v) ⟨s4, [], _, _, rfl, h4, rfl, by simp⟩ (fun k ρ hk hρ => ?_) fun ρ hρ => ?_
    · clear h4 s4
      obtain ⟨s4, dl, a, b, rfl, h4, g1, g2⟩ := hρ
      rw [List.length_map] at hk
      have hk2 : k + 1 < ss.length := by omega
      have hdk : dl.length = k := by
        have := congrArg List.length g1
        rw [List.length_map, List.length_take, List.length_drop] at this
        omega
      have h12 : (Int.toNat 12) = 12 := rfl
      tb_rel
      refine w_listRangeI (by decide) (by decide) ?_
      tb_rel
      refine shufM_w h4 (by rw [rangeI_len]; decide) fun ys s8 h10 hp => ?_
      have hyl := hp.length_eq
      rw [rangeI_len] at hyl
      top_reprB
      rename_i sz hsz
      have hszm := List.mem_of_getElem? hsz
      have hsz2 := l3 sz hszm
      rw [show (1 + (k : Int)).toNat = 1 + k by omega] at hsz
      rw [cut_hi (by omega), ← List.map_take]
      refine w_sorted ?_
      top_reprB
      have hsl : (sortI (ys.take sz.toNat)).length = sz.toNat := by rw [(sortI_perm _).length_eq, List.length_take]; omega
      have hsb : ∀ v ∈ sortI (ys.take sz.toNat), 0 ≤ v ∧ v < 12 := fun v hv => by
        have := rangeI_mem (hp.mem_iff.mp (List.mem_of_mem_take ((sortI_perm _).mem_iff.mp hv)))
        omega
      generalize sortI (ys.take sz.toNat) = us at *
      refine q_lcA us .int (fun ρ => ρ = [some (false, .list (ns.map .int)), some (true, s8), some (false, .bool g), some (false, .list (ss.map .int)), some (false, .list (zs.map .str)), some (false, .int low), some (true, .list (dl.map eDm)), some (false, .int (1 + (k : Nat))), b, none, none, none, none, none, none, none, none, none]) (fun v => .int (low + v)) (by omega) rfl (fun v hv ρ e => ?_) fun ρ e => ?_
      · subst e
        top_reprB
        all_goals rfl
      subst e
      have fin : ∀ (x : Str) (vs : List Int) (s9 : D) (a b : Option (Bool × D)), Sd s9 → zs[1 + k]? = some x → vs.length = sz.toNat → (∀ v ∈ vs, Bd v) → ∃ (s7 : D) (dl' : List (Str × List Int)) (a' b' : Option (Bool × D)), [some (false, PyData.list (ns.map .int)), some (true, s9), some (false, .bool g), some (false, .list (ss.map .int)), some (false, .list (zs.map .str)), some (false, .int low), some (true, .list (dl.map eDm ++ [PyData.tuple [PyData.str x, PyData.tuple (vs.map .int)]])), a, b, none, none, none, none, none, none, none, none, none] = [some (false, .list (ns.map .int)), some (true, s7), some (false, .bool g), some (false, .list (ss.map .int)), some (false, .list (zs.map .str)), some (false, .int low), some (true, .list (dl'.map eDm)), a', b', none, none, none, none, none, none, none, none, none] ∧ Sd s7 ∧ dl'.map (·.1) = (zs.drop 1).take (k + 1) ∧ ∀ j d, dl'[j]? = some d → (∃ sz, ss[1 + j]? = some sz ∧ d.2.length = sz.toNat) ∧ ∀ v ∈ d.2, Bd v := fun x vs s9 a b h9 hx hl hb => by
        have tk := take_more (zs := zs.drop 1) (k := k) (x := x) (by rw [List.getElem?_drop]; exact hx)
        refine ⟨s9, dl ++ [(x, vs)], _, _, by rw [List.map_append, List.map_singleton, eDm], h9, by rw [tk, List.map_append, g1]; rfl, app_facts (P := fun (j : Nat) (d : Str × List Int) => (∃ sz, ss[1 + j]? = some sz ∧ d.2.length = sz.toNat) ∧ ∀ v ∈ d.2, Bd v) g2 ?_⟩
        rw [hdk]
        exact ⟨⟨sz, hsz, hl⟩, hb⟩
      top_reprB
      · rename_i x hx r s9 h9 r0 r1 r2
        rw [show (1 + (k : Int)).toNat = 1 + k by omega] at hx
        have := fin x (us.map (low + ·)) s9 (some (false, .int (1 + (k : Nat)))) (some (false, .tuple (us.map fun v => .int (low + v)))) h9 hx (by rw [List.length_map]; exact hsl) fun v hv => by
          obtain ⟨u, hu, rfl⟩ := List.mem_map.mp hv
          have := hsb u hu
          unfold Bd; omega
        rw [List.map_map] at this
        exact this
      · rename_i x hx r s9 h9 r0 r1 r2 sz2 hs2
        rw [show (1 + (k : Int)).toNat = 1 + k by omega] at hx hs2
        rw [hsz] at hs2
        cases hs2
        refine wr1 (by omega) (by omega) ?_
        refine q_lcA (List.range (sz.toNat)) (fun i => .int (0 + (i : Nat))) (fun ρ => ρ = [some (false, .list (ns.map .int)), some (true, s9), some (false, .bool g), some (false, .list (ss.map .int)), some (false, .list (zs.map .str)), some (false, .int low), some (true, .list (dl.map eDm)), some (false, .int (1 + (k : Nat))), some (false, .tuple (us.map fun v => .int (low + v))), none, none, none, none, none, none, none, none, none]) (fun i => .int (low + (0 + (i : Nat)))) (by rw [List.length_range]; omega) rfl (fun v hv ρ e => ?_) fun ρ e => ?_
        · subst e
          top_reprB
          all_goals rfl
        subst e
        top_reprB
        have := fin x ((List.range sz.toNat).map fun i => low + (0 + (i : Nat))) s9 (some (false, .int (1 + (k : Nat)))) (some (false, .tuple (us.map fun v => .int (low + v)))) h9 hx (by rw [List.length_map, List.length_range]) fun v hv => by
          obtain ⟨u, hu, rfl⟩ := List.mem_map.mp hv
          have := List.mem_range.mp hu
          unfold Bd; omega
        rw [List.map_map] at this
        exact this
    clear h4 s4
    obtain ⟨s4, dl, a, b, rfl, h4, g1, g2⟩ := hρ
    rw [List.length_map, show ((ss.length : Int) - 1).toNat = ss.length - 1 by omega] at g1
    exact ⟨s4, dl, a, b, h4, rfl, g1, g2⟩
  clear h4 s4
  obtain ⟨s4, dl, za, zb, h4, rfl, g1, g2⟩ := hρ
  have hdl : dl.length = ss.length - 1 := by
    have := congrArg List.length g1
    rw [List.length_map, List.length_take, List.length_drop] at this
    omega
  have hdf : ∀ d ∈ dl, 0 < d.2.length ∧ d.2.length ≤ 12 ∧ (g = false → d.2.length ≤ 5) ∧ ∀ v ∈ d.2, Bd v := fun d hd => by
    obtain ⟨i, hi, e⟩ := List.mem_iff_getElem.mp hd
    obtain ⟨⟨sz, e1, e2⟩, e3⟩ := g2 i d (by rw [List.getElem?_eq_getElem hi, e])
    have m := List.mem_of_getElem? e1
    have := l3 sz m
    exact ⟨by omega, by omega, fun z => by have := (l4 z).2 sz m; omega, e3⟩
  obtain ⟨x0, hx0⟩ : ∃ x0, zs[0]? = some x0 := ⟨_, List.getElem?_eq_getElem (by omega)⟩
  obtain ⟨sz0, hsz0⟩ : ∃ z, ss[0]? = some z := ⟨_, List.getElem?_eq_getElem (by omega)⟩
  have hm0 := List.mem_of_getElem? hsz0
  have hb0 := l3 sz0 hm0
  refine seq_cut (fun ρ => ∃ s5 vs, Sd s5 ∧ ρ = [some (false, .list (ns.map .int)), some (true, s5), some (false, .bool g), some (false, .list (ss.map .int)), some (false, .list (zs.map .str)), some (false, .int low), some (true, .list (((x0, vs) :: dl).map eDm)), za, zb, none, none, none, none, none, none, none, none, none] ∧ 0 < vs.length ∧ vs.length ≤ sz0.toNat ∧ ∀ v ∈ vs, Bd v) ?_ fun ρ hρ => ?_
  · top_reprB
    rename_i x hx sz2 hs2
    rw [show Int.toNat 0 = 0 from rfl] at hx hs2
    rw [hx0] at hx
    rw [hsz0] at hs2
    cases hx
    cases hs2
    refine times_w h4 (by omega) (by omega) (fun d hd => ⟨(hdf d hd).1, (hdf d hd).2.1, (hdf d hd).2.2.2⟩) hb0.1 hb0.2 fun vs s5 h5 v1 v2 v3 => ?_
    top_reprB
    refine w_addLN (by simp only [List.length_map, List.length_cons, List.length_nil]; omega) ?_
    top_reprB
    exact ⟨s5, vs, h5, rfl, v1, v2, v3⟩
  clear h4 s4
  obtain ⟨s4, vs, h4, rfl, v1, v2, v3⟩ := hρ
  have hnm : ((x0, vs) :: dl).map (·.1) = zs.take ss.length := by
    rw [List.map_cons, g1]
    obtain ⟨z, zs, rfl⟩ : ∃ a as, zs = a :: as := by cases zs with
      | nil => simp at hx0
      | cons a as => exact ⟨_, _, rfl⟩
    rw [show ss.length = (ss.length - 1) + 1 by omega, List.take_succ_cons]
    cases hx0
    rfl
  have hv5 : g = false → vs.length ≤ 4 := fun z => by have := (l4 z).2 sz0 hm0; omega
  refine tail_w h4 (by rw [List.length_cons]; omega) (by rw [List.length_cons]; omega) (fun d hd => ?_) (fun d hd => ?_) (fun z => by have := (l4 z).1; rw [List.length_cons]; omega) (fun d hd => ?_) ?_ hzl hzn hzo l2 q
  · rw [List.take_succ_cons] at hd
    rcases List.mem_cons.mp hd with e | e
    · subst e
      have := l5 sz0 (by
        obtain ⟨z, zs, rfl⟩ : ∃ a as, ss = a :: as := by cases ss with
          | nil => simp at hsz0
          | cons a as => exact ⟨_, _, rfl⟩
        cases hsz0
        rw [List.take_succ_cons]; exact List.mem_cons_self)
      show vs.length ≤ 6
      omega
    · obtain ⟨i, hi, e⟩ := List.mem_iff_getElem.mp e
      have hi2 : i < 2 := by rw [List.length_take] at hi; omega
      rw [List.getElem_take] at e
      obtain ⟨⟨sz, e1, e2⟩, e3⟩ := g2 i d (by rw [← e]; exact List.getElem?_eq_getElem _)
      have := l5 sz (List.mem_of_getElem? (i := 1 + i) (by rw [List.getElem?_take_of_lt (by omega)]; exact e1))
      omega
  · rcases List.mem_cons.mp hd with e | e
    · subst e
      exact ⟨v1, show vs.length ≤ 12 by omega, fun z => by have := hv5 z; show vs.length ≤ 5; omega, v3⟩
    · exact hdf d e
  · have : d.1 ∈ zs.take ss.length := by rw [← hnm]; exact List.mem_map.mpr ⟨d, hd, rfl⟩
    exact hzo _ (List.mem_of_mem_take this)
  · rw [hnm]
    exact hzn.sublist (List.take_sublist _ _)
end K05W

set_option Elab.async false
set_option linter.all false
set_option maxRecDepth 100000
set_option maxHeartbeats 4000000
namespace K05W
open PySem PySem.Spec PyProof.Rows L2 GxR GenX OwnK PD
theorem kb_to_keeps_model_filling {kV doc pm cdv ct : Value} {an : Option Addr} (s : Shared) (us ws : List Value) (hl : (gg_keeps_model_filling us ws).length = P_keeps.length) : BindsTo s (PySem.W.fnOf "keeps" "keeps" (defArgs s_keeps) (defBody s_keeps) (defScope s_keeps) .none kV doc pm an cdv ct) ⟨us, [("model" : Str), ("filling" : Str)].zip ws⟩ (P_keeps.zip (gg_keeps_model_filling us ws)) := by
  unfold gg_keeps_model_filling at hl ⊢
  split at hl
  · exact .of_eq rfl
  · exact absurd hl (by decide)
theorem kb_rel_keeps_model_filling {vs zs : List V} {us ws : List Value} (r : Vals vs us) (q : Vals zs ws) : Vals (gV_keeps_model_filling vs zs) (gg_keeps_model_filling us ws) := by
  unfold gg_keeps_model_filling gV_keeps_model_filling
  cases r with
  | cons a r => exact .nil
  | nil =>
    cases q with
    | nil => exact .nil
    | cons a0 q =>
      cases q with
      | nil => exact .nil
      | cons a1 q =>
        cases q with
        | cons _ _ => exact .nil
        | nil => exact (.cons a0 (.cons a1 .nil))
theorem kb_to_keeps_saying_model_name_filling {kV doc pm cdv ct : Value} {an : Option Addr} (s : Shared) (us ws : List Value) (hl : (gg_keeps_saying_model_name_filling us ws).length = P_keeps_saying.length) : BindsTo s (PySem.W.fnOf "keeps_saying" "keeps_saying" (defArgs s_keeps_saying) (defBody s_keeps_saying) (defScope s_keeps_saying) .none kV doc pm an cdv ct) ⟨us, [("model" : Str), ("name" : Str), ("filling" : Str)].zip ws⟩ (P_keeps_saying.zip (gg_keeps_saying_model_name_filling us ws)) := by
  unfold gg_keeps_saying_model_name_filling at hl ⊢
  split at hl
  · exact .of_eq rfl
  · exact absurd hl (by decide)
theorem kb_rel_keeps_saying_model_name_filling {vs zs : List V} {us ws : List Value} (r : Vals vs us) (q : Vals zs ws) : Vals (gV_keeps_saying_model_name_filling vs zs) (gg_keeps_saying_model_name_filling us ws) := by
  unfold gg_keeps_saying_model_name_filling gV_keeps_saying_model_name_filling
  cases r with
  | cons a r => exact .nil
  | nil =>
    cases q with
    | nil => exact .nil
    | cons a0 q =>
      cases q with
      | nil => exact .nil
      | cons a1 q =>
        cases q with
        | nil => exact .nil
        | cons a2 q =>
          cases q with
          | cons _ _ => exact .nil
          | nil => exact (.cons a0 (.cons a1 (.cons a2 .nil)))
theorem law_all (ns : List Int) (hl : ns.length ≤ 63) : ∃ es, f_law [.list (ns.map .int)] = some (.bool true, es) ∧ es.length = 1 := by
  obtain ⟨⟨d, es⟩, e, h1, h2⟩ := law_w (Q := fun d es => d = .bool true ∧ es.length = 1) hl (fun es h => ⟨rfl, h⟩)
  exact ⟨es, by rw [e]; simp only [] at h1; rw [h1], h2⟩
theorem all_mk {q : Program} {l : PySem.W.OpenLaw} {w : World} {K : PySem.W.Frag} {h : Heap} {mg : Str → Option Value} {fa : Addr} {f0 g0 f1 g1 f2 g2 f3 g3 f4 g4 f5 g5 f6 g6 f7 g7 f8 g8 f9 g9 f10 g10 f11 g11 f12 g12 f13 g13 f14 g14 f15 g15 f16 g16 f17 g17 f18 g18 f19 g19 f20 g20 f21 g21 f22 g22 f23 g23 f24 g24 f25 g25 f26 g26 f27 g27 f28 g28 f29 g29 : Addr} (X : K.In h) (G : h.Ns mainGlobals mg) (hfa : mg "law" = some (.ref fa)) (tb : TabsOf q K h)
    {od0 an0 od1 an1 od2 an2 od3 an3 od4 an4 od5 an5 od6 an6 od7 an7 od8 an8 od9 an9 od10 an10 od11 an11 od12 an12 od13 an13 od14 an14 od15 an15 od16 an16 od17 an17 od18 an18 od19 an19 od20 an20 od21 an21 od22 an22 od23 an23 od24 an24 od25 an25 od26 an26 od27 an27 od28 an28 od29 an29 : Option Addr} {sl0 sl1 sl2 sl3 sl4 sl5 sl6 sl7 sl8 sl9 sl10 sl11 sl12 sl13 sl14 sl15 sl16 sl17 sl18 sl19 sl20 sl21 sl22 sl23 sl24 sl25 sl26 sl27 sl28 sl29 : Array (Option Value)} {oc0 kV0 dc0 pm0 ct0 oc1 kV1 dc1 pm1 ct1 oc2 kV2 dc2 pm2 ct2 oc3 kV3 dc3 pm3 ct3 oc4 kV4 dc4 pm4 ct4 oc5 kV5 dc5 pm5 ct5 oc6 kV6 dc6 pm6 ct6 oc7 kV7 dc7 pm7 ct7 oc8 kV8 dc8 pm8 ct8 oc9 kV9 dc9 pm9 ct9 oc10 kV10 dc10 pm10 ct10 oc11 kV11 dc11 pm11 ct11 oc12 kV12 dc12 pm12 ct12 oc13 kV13 dc13 pm13 ct13 oc14 kV14 dc14 pm14 ct14 oc15 kV15 dc15 pm15 ct15 oc16 kV16 dc16 pm16 ct16 oc17 kV17 dc17 pm17 ct17 oc18 kV18 dc18 pm18 ct18 oc19 kV19 dc19 pm19 ct19 oc20 kV20 dc20 pm20 ct20 oc21 kV21 dc21 pm21 ct21 oc22 kV22 dc22 pm22 ct22 oc23 kV23 dc23 pm23 ct23 oc24 kV24 dc24 pm24 ct24 oc25 kV25 dc25 pm25 ct25 oc26 kV26 dc26 pm26 ct26 oc27 kV27 dc27 pm27 ct27 oc28 kV28 dc28 pm28 ct28 oc29 kV29 dc29 pm29 ct29 : Value}
    {t0 t10 : Addr}
    {p0 : Addr} {es0 : Array DictEntry} {nn0 : Nat}
    (a0 : PySem.W.nsIn K mainGlobals "weighed" = some (some (.ref f0))) (l0 : K.lookup f0 = some ⟨oc0, od0, .func (PySem.W.fnOf "weighed" "weighed" (defArgs s_weighed) (defBody s_weighed) (defScope s_weighed) .none kV0 dc0 pm0 an0 (.ref g0) ct0), sl0⟩) (c0 : PySem.W.codeIn K (.ref g0) "weighed" = true) (k0 : PySem.W.keepIn K (.ref f0) = true)
    (a1 : PySem.W.nsIn K mainGlobals "values_at" = some (some (.ref f1))) (l1 : K.lookup f1 = some ⟨oc1, od1, .func (PySem.W.fnOf "values_at" "values_at" (defArgs s_values_at) (defBody s_values_at) (defScope s_values_at) .none kV1 dc1 pm1 an1 (.ref g1) ct1), sl1⟩) (c1 : PySem.W.codeIn K (.ref g1) "values_at" = true) (k1 : PySem.W.keepIn K (.ref f1) = true)
    (a2 : PySem.W.nsIn K mainGlobals "holds_product" = some (some (.ref f2))) (l2 : K.lookup f2 = some ⟨oc2, od2, .func (PySem.W.fnOf "holds_product" "holds_product" (defArgs s_holds_product) (defBody s_holds_product) (defScope s_holds_product) .none kV2 dc2 pm2 an2 (.ref g2) ct2), sl2⟩) (c2 : PySem.W.codeIn K (.ref g2) "holds_product" = true) (k2 : PySem.W.keepIn K (.ref f2) = true)
    (a3 : PySem.W.nsIn K mainGlobals "holds_ahead" = some (some (.ref f3))) (l3 : K.lookup f3 = some ⟨oc3, od3, .func (PySem.W.fnOf "holds_ahead" "holds_ahead" (defArgs s_holds_ahead) (defBody s_holds_ahead) (defScope s_holds_ahead) .none kV3 dc3 pm3 an3 (.ref g3) ct3), sl3⟩) (c3 : PySem.W.codeIn K (.ref g3) "holds_ahead" = true) (k3 : PySem.W.keepIn K (.ref f3) = true)
    (a4 : PySem.W.nsIn K mainGlobals "stand_of_machine" = some (some (.ref f4))) (l4 : K.lookup f4 = some ⟨oc4, od4, .func (PySem.W.fnOf "stand_of_machine" "stand_of_machine" (defArgs s_stand_of_machine) (defBody s_stand_of_machine) (defScope s_stand_of_machine) .none kV4 dc4 pm4 an4 (.ref g4) ct4), sl4⟩) (c4 : PySem.W.codeIn K (.ref g4) "stand_of_machine" = true) (k4 : PySem.W.keepIn K (.ref f4) = true)
    (a5 : PySem.W.nsIn K mainGlobals "holds_machine" = some (some (.ref f5))) (l5 : K.lookup f5 = some ⟨oc5, od5, .func (PySem.W.fnOf "holds_machine" "holds_machine" (defArgs s_holds_machine) (defBody s_holds_machine) (defScope s_holds_machine) .none kV5 dc5 pm5 an5 (.ref g5) ct5), sl5⟩) (c5 : PySem.W.codeIn K (.ref g5) "holds_machine" = true) (k5 : PySem.W.keepIn K (.ref f5) = true)
    (a6 : PySem.W.nsIn K mainGlobals "saying_holds" = some (some (.ref f6))) (l6 : K.lookup f6 = some ⟨oc6, od6, .func (PySem.W.fnOf "saying_holds" "saying_holds" (defArgs s_saying_holds) (defBody s_saying_holds) (defScope s_saying_holds) .none kV6 dc6 pm6 an6 (.ref g6) ct6), sl6⟩) (c6 : PySem.W.codeIn K (.ref g6) "saying_holds" = true) (k6 : PySem.W.keepIn K (.ref f6) = true)
    (a7 : PySem.W.nsIn K mainGlobals "said_in" = some (some (.ref f7))) (l7 : K.lookup f7 = some ⟨oc7, od7, .func (PySem.W.fnOf "said_in" "said_in" (defArgs s_said_in) (defBody s_said_in) (defScope s_said_in) .none kV7 dc7 pm7 an7 (.ref g7) ct7), sl7⟩) (c7 : PySem.W.codeIn K (.ref g7) "said_in" = true) (k7 : PySem.W.keepIn K (.ref f7) = true)
    (a8 : PySem.W.nsIn K mainGlobals "filling_dict" = some (some (.ref f8))) (l8 : K.lookup f8 = some ⟨oc8, od8, .func (PySem.W.fnOf "filling_dict" "filling_dict" (defArgs s_filling_dict) (defBody s_filling_dict) (defScope s_filling_dict) .none kV8 dc8 pm8 an8 (.ref g8) ct8), sl8⟩) (c8 : PySem.W.codeIn K (.ref g8) "filling_dict" = true) (k8 : PySem.W.keepIn K (.ref f8) = true)
    (a9 : PySem.W.nsIn K mainGlobals "keeps_saying" = some (some (.ref f9))) (l9 : K.lookup f9 = some ⟨oc9, od9, .func (PySem.W.fnOf "keeps_saying" "keeps_saying" (defArgs s_keeps_saying) (defBody s_keeps_saying) (defScope s_keeps_saying) .none kV9 dc9 pm9 an9 (.ref g9) ct9), sl9⟩) (c9 : PySem.W.codeIn K (.ref g9) "keeps_saying" = true) (k9 : PySem.W.keepIn K (.ref f9) = true)
    (a10 : PySem.W.nsIn K mainGlobals "keeps" = some (some (.ref f10))) (l10 : K.lookup f10 = some ⟨oc10, od10, .func (PySem.W.fnOf "keeps" "keeps" (defArgs s_keeps) (defBody s_keeps) (defScope s_keeps) .none kV10 dc10 pm10 an10 (.ref g10) ct10), sl10⟩) (c10 : PySem.W.codeIn K (.ref g10) "keeps" = true) (k10 : PySem.W.keepIn K (.ref f10) = true)
    (a11 : PySem.W.nsIn K mainGlobals "_law_mixed" = some (some (.ref f11))) (l11 : K.lookup f11 = some ⟨oc11, od11, .func (PySem.W.fnOf "_law_mixed" "_law_mixed" (defArgs s__law_mixed) (defBody s__law_mixed) (defScope s__law_mixed) .none kV11 dc11 pm11 an11 (.ref g11) ct11), sl11⟩) (c11 : PySem.W.codeIn K (.ref g11) "_law_mixed" = true) (k11 : PySem.W.keepIn K (.ref f11) = true)
    (a12 : PySem.W.nsIn K mainGlobals "_law_start" = some (some (.ref f12))) (l12 : K.lookup f12 = some ⟨oc12, od12, .func (PySem.W.fnOf "_law_start" "_law_start" (defArgs s__law_start) (defBody s__law_start) (defScope s__law_start) .none kV12 dc12 pm12 an12 (.ref g12) ct12), sl12⟩) (c12 : PySem.W.codeIn K (.ref g12) "_law_start" = true) (k12 : PySem.W.keepIn K (.ref f12) = true)
    (a13 : PySem.W.nsIn K mainGlobals "_law_take" = some (some (.ref f13))) (l13 : K.lookup f13 = some ⟨oc13, od13, .func (PySem.W.fnOf "_law_take" "_law_take" (defArgs s__law_take) (defBody s__law_take) (defScope s__law_take) .none kV13 dc13 pm13 an13 (.ref g13) ct13), sl13⟩) (c13 : PySem.W.codeIn K (.ref g13) "_law_take" = true) (k13 : PySem.W.keepIn K (.ref f13) = true)
    (a14 : PySem.W.nsIn K mainGlobals "_law_pick" = some (some (.ref f14))) (l14 : K.lookup f14 = some ⟨oc14, od14, .func (PySem.W.fnOf "_law_pick" "_law_pick" (defArgs s__law_pick) (defBody s__law_pick) (defScope s__law_pick) .none kV14 dc14 pm14 an14 (.ref g14) ct14), sl14⟩) (c14 : PySem.W.codeIn K (.ref g14) "_law_pick" = true) (k14 : PySem.W.keepIn K (.ref f14) = true)
    (a15 : PySem.W.nsIn K mainGlobals "_law_shuffled" = some (some (.ref f15))) (l15 : K.lookup f15 = some ⟨oc15, od15, .func (PySem.W.fnOf "_law_shuffled" "_law_shuffled" (defArgs s__law_shuffled) (defBody s__law_shuffled) (defScope s__law_shuffled) .none kV15 dc15 pm15 an15 (.ref g15) ct15), sl15⟩) (c15 : PySem.W.codeIn K (.ref g15) "_law_shuffled" = true) (k15 : PySem.W.keepIn K (.ref f15) = true)
    (a16 : PySem.W.nsIn K mainGlobals "_law_names" = some (some (.ref f16))) (l16 : K.lookup f16 = some ⟨oc16, od16, .func (PySem.W.fnOf "_law_names" "_law_names" (defArgs s__law_names) (defBody s__law_names) (defScope s__law_names) .none kV16 dc16 pm16 an16 (.ref g16) ct16), sl16⟩) (c16 : PySem.W.codeIn K (.ref g16) "_law_names" = true) (k16 : PySem.W.keepIn K (.ref f16) = true)
    (a17 : PySem.W.nsIn K mainGlobals "_law_is_due" = some (some (.ref f17))) (l17 : K.lookup f17 = some ⟨oc17, od17, .func (PySem.W.fnOf "_law_is_due" "_law_is_due" (defArgs s__law_is_due) (defBody s__law_is_due) (defScope s__law_is_due) .none kV17 dc17 pm17 an17 (.ref g17) ct17), sl17⟩) (c17 : PySem.W.codeIn K (.ref g17) "_law_is_due" = true) (k17 : PySem.W.keepIn K (.ref f17) = true)
    (a18 : PySem.W.nsIn K mainGlobals "_law_fillings" = some (some (.ref f18))) (l18 : K.lookup f18 = some ⟨oc18, od18, .func (PySem.W.fnOf "_law_fillings" "_law_fillings" (defArgs s__law_fillings) (defBody s__law_fillings) (defScope s__law_fillings) .none kV18 dc18 pm18 an18 (.ref g18) ct18), sl18⟩) (c18 : PySem.W.codeIn K (.ref g18) "_law_fillings" = true) (k18 : PySem.W.keepIn K (.ref f18) = true)
    (a19 : PySem.W.nsIn K mainGlobals "_law_world" = some (some (.ref f19))) (l19 : K.lookup f19 = some ⟨oc19, od19, .func (PySem.W.fnOf "_law_world" "_law_world" (defArgs s__law_world) (defBody s__law_world) (defScope s__law_world) .none kV19 dc19 pm19 an19 (.ref g19) ct19), sl19⟩) (c19 : PySem.W.codeIn K (.ref g19) "_law_world" = true) (k19 : PySem.W.keepIn K (.ref f19) = true)
    (a20 : PySem.W.nsIn K mainGlobals "_law_near" = some (some (.ref f20))) (l20 : K.lookup f20 = some ⟨oc20, od20, .func (PySem.W.fnOf "_law_near" "_law_near" (defArgs s__law_near) (defBody s__law_near) (defScope s__law_near) .none kV20 dc20 pm20 an20 (.ref g20) ct20), sl20⟩) (c20 : PySem.W.codeIn K (.ref g20) "_law_near" = true) (k20 : PySem.W.keepIn K (.ref f20) = true)
    (a21 : PySem.W.nsIn K mainGlobals "_law_walk" = some (some (.ref f21))) (l21 : K.lookup f21 = some ⟨oc21, od21, .func (PySem.W.fnOf "_law_walk" "_law_walk" (defArgs s__law_walk) (defBody s__law_walk) (defScope s__law_walk) .none kV21 dc21 pm21 an21 (.ref g21) ct21), sl21⟩) (c21 : PySem.W.codeIn K (.ref g21) "_law_walk" = true) (k21 : PySem.W.keepIn K (.ref f21) = true)
    (a22 : PySem.W.nsIn K mainGlobals "_law_holds" = some (some (.ref f22))) (l22 : K.lookup f22 = some ⟨oc22, od22, .func (PySem.W.fnOf "_law_holds" "_law_holds" (defArgs s__law_holds) (defBody s__law_holds) (defScope s__law_holds) .none kV22 dc22 pm22 an22 (.ref g22) ct22), sl22⟩) (c22 : PySem.W.codeIn K (.ref g22) "_law_holds" = true) (k22 : PySem.W.keepIn K (.ref f22) = true)
    (a23 : PySem.W.nsIn K mainGlobals "_law_are_held" = some (some (.ref f23))) (l23 : K.lookup f23 = some ⟨oc23, od23, .func (PySem.W.fnOf "_law_are_held" "_law_are_held" (defArgs s__law_are_held) (defBody s__law_are_held) (defScope s__law_are_held) .none kV23 dc23 pm23 an23 (.ref g23) ct23), sl23⟩) (c23 : PySem.W.codeIn K (.ref g23) "_law_are_held" = true) (k23 : PySem.W.keepIn K (.ref f23) = true)
    (a24 : PySem.W.nsIn K mainGlobals "_law_parted" = some (some (.ref f24))) (l24 : K.lookup f24 = some ⟨oc24, od24, .func (PySem.W.fnOf "_law_parted" "_law_parted" (defArgs s__law_parted) (defBody s__law_parted) (defScope s__law_parted) .none kV24 dc24 pm24 an24 (.ref g24) ct24), sl24⟩) (c24 : PySem.W.codeIn K (.ref g24) "_law_parted" = true) (k24 : PySem.W.keepIn K (.ref f24) = true)
    (a25 : PySem.W.nsIn K mainGlobals "_law_machine" = some (some (.ref f25))) (l25 : K.lookup f25 = some ⟨oc25, od25, .func (PySem.W.fnOf "_law_machine" "_law_machine" (defArgs s__law_machine) (defBody s__law_machine) (defScope s__law_machine) .none kV25 dc25 pm25 an25 (.ref g25) ct25), sl25⟩) (c25 : PySem.W.codeIn K (.ref g25) "_law_machine" = true) (k25 : PySem.W.keepIn K (.ref f25) = true)
    (a26 : PySem.W.nsIn K mainGlobals "_law_saying" = some (some (.ref f26))) (l26 : K.lookup f26 = some ⟨oc26, od26, .func (PySem.W.fnOf "_law_saying" "_law_saying" (defArgs s__law_saying) (defBody s__law_saying) (defScope s__law_saying) .none kV26 dc26 pm26 an26 (.ref g26) ct26), sl26⟩) (c26 : PySem.W.codeIn K (.ref g26) "_law_saying" = true) (k26 : PySem.W.keepIn K (.ref f26) = true)
    (a27 : PySem.W.nsIn K mainGlobals "_law_times" = some (some (.ref f27))) (l27 : K.lookup f27 = some ⟨oc27, od27, .func (PySem.W.fnOf "_law_times" "_law_times" (defArgs s__law_times) (defBody s__law_times) (defScope s__law_times) .none kV27 dc27 pm27 an27 (.ref g27) ct27), sl27⟩) (c27 : PySem.W.codeIn K (.ref g27) "_law_times" = true) (k27 : PySem.W.keepIn K (.ref f27) = true)
    (a28 : PySem.W.nsIn K mainGlobals "_law_by_turns" = some (some (.ref f28))) (l28 : K.lookup f28 = some ⟨oc28, od28, .func (PySem.W.fnOf "_law_by_turns" "_law_by_turns" (defArgs s__law_by_turns) (defBody s__law_by_turns) (defScope s__law_by_turns) .none kV28 dc28 pm28 an28 (.ref g28) ct28), sl28⟩) (c28 : PySem.W.codeIn K (.ref g28) "_law_by_turns" = true) (k28 : PySem.W.keepIn K (.ref f28) = true)
    (a29 : PySem.W.nsIn K mainGlobals "law" = some (some (.ref f29))) (l29 : K.lookup f29 = some ⟨oc29, od29, .func (PySem.W.fnOf "law" "law" (defArgs s_law) (defBody s_law) (defScope s_law) .none kV29 dc29 pm29 an29 (.ref g29) ct29), sl29⟩) (c29 : PySem.W.codeIn K (.ref g29) "law" = true) (k29 : PySem.W.keepIn K (.ref f29) = true)
    (r0 : ((recsOf q).any fun e => e.name == ("weighed" : Str)) = true) {ve0 : Value} {vd0 : Option Addr} {vs0 : Array Value} {vl0 : Array (Option Value)} (v0 : K.lookup g0 = some ⟨ve0, vd0, .fields vs0, vl0⟩) (q0 : (vs0[11]? : Option Value) = some (.ref t0)) (n0 : K.lookup t0 = none)
    (r10 : ((recsOf q).any fun e => e.name == ("keeps" : Str)) = true) {ve10 : Value} {vd10 : Option Addr} {vs10 : Array Value} {vl10 : Array (Option Value)} (v10 : K.lookup g10 = some ⟨ve10, vd10, .fields vs10, vl10⟩) (q10 : (vs10[11]? : Option Value) = some (.ref t10)) (n10 : K.lookup t10 = none)
    (z0 : PySem.W.nsIn K mainGlobals "abs" = some none)
    (z1 : PySem.W.nsIn K mainGlobals "all" = some none)
    (z2 : PySem.W.nsIn K mainGlobals "int" = some none)
    (z3 : PySem.W.nsIn K mainGlobals "len" = some none)
    (z4 : PySem.W.nsIn K mainGlobals "list" = some none)
    (z5 : PySem.W.nsIn K mainGlobals "max" = some none)
    (z6 : PySem.W.nsIn K mainGlobals "min" = some none)
    (z7 : PySem.W.nsIn K mainGlobals "range" = some none)
    (z8 : PySem.W.nsIn K mainGlobals "sorted" = some none)
    (z9 : PySem.W.nsIn K mainGlobals "str" = some none)
    (z10 : PySem.W.nsIn K mainGlobals "sum" = some none)
    (z11 : PySem.W.nsIn K mainGlobals "tuple" = some none)
    (da0 : PySem.W.nsIn K mainGlobals "HOLDS" = some (some (.ref p0))) (dl0 : K.lookup p0 = some ⟨.type "dict", none, .dict es0 nn0, #[]⟩) (dk0 : PySem.W.KeysLit w.params es0.toList)
    (de0_0 : PySem.W.nsIn K p0 "product" = some (some (.ref f2)))
    (de0_1 : PySem.W.nsIn K p0 "ahead" = some (some (.ref f3)))
    (de0_2 : PySem.W.nsIn K p0 "machine" = some (some (.ref f5)))
    : LamX.LawAtS l w K CX0 10 63 "script" mg fa h := by
  have e := hfa.symm.trans (PySem.W.mg_of X G a29)
  cases e
  have F0 := fun_mk (st := s_weighed) l0 c0 k0
  have F1 := fun_mk (st := s_values_at) l1 c1 k1
  have F2 := fun_mk (st := s_holds_product) l2 c2 k2
  have F3 := fun_mk (st := s_holds_ahead) l3 c3 k3
  have F4 := fun_mk (st := s_stand_of_machine) l4 c4 k4
  have F5 := fun_mk (st := s_holds_machine) l5 c5 k5
  have F6 := fun_mk (st := s_saying_holds) l6 c6 k6
  have F7 := fun_mk (st := s_said_in) l7 c7 k7
  have F8 := fun_mk (st := s_filling_dict) l8 c8 k8
  have F9 := fun_mk (st := s_keeps_saying) l9 c9 k9
  have F10 := fun_mk (st := s_keeps) l10 c10 k10
  have F11 := fun_mk (st := s__law_mixed) l11 c11 k11
  have F12 := fun_mk (st := s__law_start) l12 c12 k12
  have F13 := fun_mk (st := s__law_take) l13 c13 k13
  have F14 := fun_mk (st := s__law_pick) l14 c14 k14
  have F15 := fun_mk (st := s__law_shuffled) l15 c15 k15
  have F16 := fun_mk (st := s__law_names) l16 c16 k16
  have F17 := fun_mk (st := s__law_is_due) l17 c17 k17
  have F18 := fun_mk (st := s__law_fillings) l18 c18 k18
  have F19 := fun_mk (st := s__law_world) l19 c19 k19
  have F20 := fun_mk (st := s__law_near) l20 c20 k20
  have F21 := fun_mk (st := s__law_walk) l21 c21 k21
  have F22 := fun_mk (st := s__law_holds) l22 c22 k22
  have F23 := fun_mk (st := s__law_are_held) l23 c23 k23
  have F24 := fun_mk (st := s__law_parted) l24 c24 k24
  have F25 := fun_mk (st := s__law_machine) l25 c25 k25
  have F26 := fun_mk (st := s__law_saying) l26 c26 k26
  have F27 := fun_mk (st := s__law_times) l27 c27 k27
  have F28 := fun_mk (st := s__law_by_turns) l28 c28 k28
  have F29 := fun_mk (st := s_law) l29 c29 k29
  let A : Ad := ⟨f0, g0, f1, g1, f2, g2, f3, g3, f4, g4, f5, g5, f6, g6, f7, g7, f8, g8, f9, g9, f10, g10, f11, g11, f12, g12, f13, g13, f14, g14, f15, g15, f16, g16, f17, g17, f18, g18, f19, g19, f20, g20, f21, g21, f22, g22, f23, g23, f24, g24, f25, g25, f26, g26, f27, g27, f28, g28, fa, g29, t0, t10, p0⟩
  let D : Fd := ⟨PySem.W.fnOf "weighed" "weighed" (defArgs s_weighed) (defBody s_weighed) (defScope s_weighed) .none kV0 dc0 pm0 an0 (.ref g0) ct0, PySem.W.fnOf "values_at" "values_at" (defArgs s_values_at) (defBody s_values_at) (defScope s_values_at) .none kV1 dc1 pm1 an1 (.ref g1) ct1, PySem.W.fnOf "holds_product" "holds_product" (defArgs s_holds_product) (defBody s_holds_product) (defScope s_holds_product) .none kV2 dc2 pm2 an2 (.ref g2) ct2, PySem.W.fnOf "holds_ahead" "holds_ahead" (defArgs s_holds_ahead) (defBody s_holds_ahead) (defScope s_holds_ahead) .none kV3 dc3 pm3 an3 (.ref g3) ct3, PySem.W.fnOf "stand_of_machine" "stand_of_machine" (defArgs s_stand_of_machine) (defBody s_stand_of_machine) (defScope s_stand_of_machine) .none kV4 dc4 pm4 an4 (.ref g4) ct4, PySem.W.fnOf "holds_machine" "holds_machine" (defArgs s_holds_machine) (defBody s_holds_machine) (defScope s_holds_machine) .none kV5 dc5 pm5 an5 (.ref g5) ct5, PySem.W.fnOf "saying_holds" "saying_holds" (defArgs s_saying_holds) (defBody s_saying_holds) (defScope s_saying_holds) .none kV6 dc6 pm6 an6 (.ref g6) ct6, PySem.W.fnOf "said_in" "said_in" (defArgs s_said_in) (defBody s_said_in) (defScope s_said_in) .none kV7 dc7 pm7 an7 (.ref g7) ct7, PySem.W.fnOf "filling_dict" "filling_dict" (defArgs s_filling_dict) (defBody s_filling_dict) (defScope s_filling_dict) .none kV8 dc8 pm8 an8 (.ref g8) ct8, PySem.W.fnOf "keeps_saying" "keeps_saying" (defArgs s_keeps_saying) (defBody s_keeps_saying) (defScope s_keeps_saying) .none kV9 dc9 pm9 an9 (.ref g9) ct9, PySem.W.fnOf "keeps" "keeps" (defArgs s_keeps) (defBody s_keeps) (defScope s_keeps) .none kV10 dc10 pm10 an10 (.ref g10) ct10, PySem.W.fnOf "_law_mixed" "_law_mixed" (defArgs s__law_mixed) (defBody s__law_mixed) (defScope s__law_mixed) .none kV11 dc11 pm11 an11 (.ref g11) ct11, PySem.W.fnOf "_law_start" "_law_start" (defArgs s__law_start) (defBody s__law_start) (defScope s__law_start) .none kV12 dc12 pm12 an12 (.ref g12) ct12, PySem.W.fnOf "_law_take" "_law_take" (defArgs s__law_take) (defBody s__law_take) (defScope s__law_take) .none kV13 dc13 pm13 an13 (.ref g13) ct13, PySem.W.fnOf "_law_pick" "_law_pick" (defArgs s__law_pick) (defBody s__law_pick) (defScope s__law_pick) .none kV14 dc14 pm14 an14 (.ref g14) ct14, PySem.W.fnOf "_law_shuffled" "_law_shuffled" (defArgs s__law_shuffled) (defBody s__law_shuffled) (defScope s__law_shuffled) .none kV15 dc15 pm15 an15 (.ref g15) ct15, PySem.W.fnOf "_law_names" "_law_names" (defArgs s__law_names) (defBody s__law_names) (defScope s__law_names) .none kV16 dc16 pm16 an16 (.ref g16) ct16, PySem.W.fnOf "_law_is_due" "_law_is_due" (defArgs s__law_is_due) (defBody s__law_is_due) (defScope s__law_is_due) .none kV17 dc17 pm17 an17 (.ref g17) ct17, PySem.W.fnOf "_law_fillings" "_law_fillings" (defArgs s__law_fillings) (defBody s__law_fillings) (defScope s__law_fillings) .none kV18 dc18 pm18 an18 (.ref g18) ct18, PySem.W.fnOf "_law_world" "_law_world" (defArgs s__law_world) (defBody s__law_world) (defScope s__law_world) .none kV19 dc19 pm19 an19 (.ref g19) ct19, PySem.W.fnOf "_law_near" "_law_near" (defArgs s__law_near) (defBody s__law_near) (defScope s__law_near) .none kV20 dc20 pm20 an20 (.ref g20) ct20, PySem.W.fnOf "_law_walk" "_law_walk" (defArgs s__law_walk) (defBody s__law_walk) (defScope s__law_walk) .none kV21 dc21 pm21 an21 (.ref g21) ct21, PySem.W.fnOf "_law_holds" "_law_holds" (defArgs s__law_holds) (defBody s__law_holds) (defScope s__law_holds) .none kV22 dc22 pm22 an22 (.ref g22) ct22, PySem.W.fnOf "_law_are_held" "_law_are_held" (defArgs s__law_are_held) (defBody s__law_are_held) (defScope s__law_are_held) .none kV23 dc23 pm23 an23 (.ref g23) ct23, PySem.W.fnOf "_law_parted" "_law_parted" (defArgs s__law_parted) (defBody s__law_parted) (defScope s__law_parted) .none kV24 dc24 pm24 an24 (.ref g24) ct24, PySem.W.fnOf "_law_machine" "_law_machine" (defArgs s__law_machine) (defBody s__law_machine) (defScope s__law_machine) .none kV25 dc25 pm25 an25 (.ref g25) ct25, PySem.W.fnOf "_law_saying" "_law_saying" (defArgs s__law_saying) (defBody s__law_saying) (defScope s__law_saying) .none kV26 dc26 pm26 an26 (.ref g26) ct26, PySem.W.fnOf "_law_times" "_law_times" (defArgs s__law_times) (defBody s__law_times) (defScope s__law_times) .none kV27 dc27 pm27 an27 (.ref g27) ct27, PySem.W.fnOf "_law_by_turns" "_law_by_turns" (defArgs s__law_by_turns) (defBody s__law_by_turns) (defScope s__law_by_turns) .none kV28 dc28 pm28 an28 (.ref g28) ct28, PySem.W.fnOf "law" "law" (defArgs s_law) (defBody s_law) (defScope s_law) .none kV29 dc29 pm29 an29 (.ref g29) ct29⟩
  have T : ∀ base : Heap, (∀ p ∈ ([(g0, t0), (g10, t10)] : List (Addr × Addr)), TabB base mg p.1 p.2) → Txt w K mg base A D := fun base TB =>
    ⟨⟨⟨_, _, _, _, _, _, _, _, rfl, l0, c0⟩⟩, k0, (F0.binds (ps := P_weighed) fun _ _ _ _ _ _ us hl => match us, hl with | [_, _], _ => rfl), PySem.W.mg_of X G a0, TB (g0, t0) (by simp),
    ⟨⟨_, _, _, _, _, _, _, _, rfl, l1, c1⟩⟩, k1, (F1.binds (ps := P_values_at) fun _ _ _ _ _ _ us hl => match us, hl with | [_, _], _ => rfl), PySem.W.mg_of X G a1,
    ⟨⟨_, _, _, _, _, _, _, _, rfl, l2, c2⟩⟩, k2, (F2.binds (ps := P_holds_product) fun _ _ _ _ _ _ us hl => match us, hl with | [_, _], _ => rfl), PySem.W.mg_of X G a2,
    ⟨⟨_, _, _, _, _, _, _, _, rfl, l3, c3⟩⟩, k3, (F3.binds (ps := P_holds_ahead) fun _ _ _ _ _ _ us hl => match us, hl with | [_, _], _ => rfl), PySem.W.mg_of X G a3,
    ⟨⟨_, _, _, _, _, _, _, _, rfl, l4, c4⟩⟩, k4, (F4.binds (ps := P_stand_of_machine) fun _ _ _ _ _ _ us hl => match us, hl with | [_, _, _], _ => rfl), PySem.W.mg_of X G a4,
    ⟨⟨_, _, _, _, _, _, _, _, rfl, l5, c5⟩⟩, k5, (F5.binds (ps := P_holds_machine) fun _ _ _ _ _ _ us hl => match us, hl with | [_, _], _ => rfl), PySem.W.mg_of X G a5,
    ⟨⟨_, _, _, _, _, _, _, _, rfl, l6, c6⟩⟩, k6, (F6.binds (ps := P_saying_holds) fun _ _ _ _ _ _ us hl => match us, hl with | [_, _], _ => rfl), PySem.W.mg_of X G a6,
    ⟨⟨_, _, _, _, _, _, _, _, rfl, l7, c7⟩⟩, k7, (F7.binds (ps := P_said_in) fun _ _ _ _ _ _ us hl => match us, hl with | [_], _ => rfl), PySem.W.mg_of X G a7,
    ⟨⟨_, _, _, _, _, _, _, _, rfl, l8, c8⟩⟩, k8, (F8.binds (ps := P_filling_dict) fun _ _ _ _ _ _ us hl => match us, hl with | [_, _], _ => rfl), PySem.W.mg_of X G a8,
    ⟨⟨_, _, _, _, _, _, _, _, rfl, l9, c9⟩⟩, k9, (F9.binds (ps := P_keeps_saying) fun _ _ _ _ _ _ us hl => match us, hl with | [_, _, _], _ => rfl), PySem.W.mg_of X G a9,
    ⟨⟨_, _, _, _, _, _, _, _, rfl, l10, c10⟩⟩, k10, (F10.binds (ps := P_keeps) fun _ _ _ _ _ _ us hl => match us, hl with | [_, _], _ => rfl), PySem.W.mg_of X G a10, TB (g10, t10) (by simp),
    ⟨⟨_, _, _, _, _, _, _, _, rfl, l11, c11⟩⟩, k11, (F11.binds (ps := P__law_mixed) fun _ _ _ _ _ _ us hl => match us, hl with | [_, _], _ => rfl), PySem.W.mg_of X G a11,
    ⟨⟨_, _, _, _, _, _, _, _, rfl, l12, c12⟩⟩, k12, (F12.binds (ps := P__law_start) fun _ _ _ _ _ _ us hl => match us, hl with | [_], _ => rfl), PySem.W.mg_of X G a12,
    ⟨⟨_, _, _, _, _, _, _, _, rfl, l13, c13⟩⟩, k13, (F13.binds (ps := P__law_take) fun _ _ _ _ _ _ us hl => match us, hl with | [_, _], _ => rfl), PySem.W.mg_of X G a13,
    ⟨⟨_, _, _, _, _, _, _, _, rfl, l14, c14⟩⟩, k14, (F14.binds (ps := P__law_pick) fun _ _ _ _ _ _ us hl => match us, hl with | [_, _], _ => rfl), PySem.W.mg_of X G a14,
    ⟨⟨_, _, _, _, _, _, _, _, rfl, l15, c15⟩⟩, k15, (F15.binds (ps := P__law_shuffled) fun _ _ _ _ _ _ us hl => match us, hl with | [_, _], _ => rfl), PySem.W.mg_of X G a15,
    ⟨⟨_, _, _, _, _, _, _, _, rfl, l16, c16⟩⟩, k16, (F16.binds (ps := P__law_names) fun _ _ _ _ _ _ us hl => match us, hl with | [_, _], _ => rfl), PySem.W.mg_of X G a16,
    ⟨⟨_, _, _, _, _, _, _, _, rfl, l17, c17⟩⟩, k17, (F17.binds (ps := P__law_is_due) fun _ _ _ _ _ _ us hl => match us, hl with | [_, _], _ => rfl), PySem.W.mg_of X G a17,
    ⟨⟨_, _, _, _, _, _, _, _, rfl, l18, c18⟩⟩, k18, (F18.binds (ps := P__law_fillings) fun _ _ _ _ _ _ us hl => match us, hl with | [_], _ => rfl), PySem.W.mg_of X G a18,
    ⟨⟨_, _, _, _, _, _, _, _, rfl, l19, c19⟩⟩, k19, (F19.binds (ps := P__law_world) fun _ _ _ _ _ _ us hl => match us, hl with | [_, _], _ => rfl), PySem.W.mg_of X G a19,
    ⟨⟨_, _, _, _, _, _, _, _, rfl, l20, c20⟩⟩, k20, (F20.binds (ps := P__law_near) fun _ _ _ _ _ _ us hl => match us, hl with | [_, _, _], _ => rfl), PySem.W.mg_of X G a20,
    ⟨⟨_, _, _, _, _, _, _, _, rfl, l21, c21⟩⟩, k21, (F21.binds (ps := P__law_walk) fun _ _ _ _ _ _ us hl => match us, hl with | [_, _], _ => rfl), PySem.W.mg_of X G a21,
    ⟨⟨_, _, _, _, _, _, _, _, rfl, l22, c22⟩⟩, k22, (F22.binds (ps := P__law_holds) fun _ _ _ _ _ _ us hl => match us, hl with | [_, _], _ => rfl), PySem.W.mg_of X G a22,
    ⟨⟨_, _, _, _, _, _, _, _, rfl, l23, c23⟩⟩, k23, (F23.binds (ps := P__law_are_held) fun _ _ _ _ _ _ us hl => match us, hl with | [_, _, _, _, _], _ => rfl), PySem.W.mg_of X G a23,
    ⟨⟨_, _, _, _, _, _, _, _, rfl, l24, c24⟩⟩, k24, (F24.binds (ps := P__law_parted) fun _ _ _ _ _ _ us hl => match us, hl with | [_, _, _], _ => rfl), PySem.W.mg_of X G a24,
    ⟨⟨_, _, _, _, _, _, _, _, rfl, l25, c25⟩⟩, k25, (F25.binds (ps := P__law_machine) fun _ _ _ _ _ _ us hl => match us, hl with | [_, _, _], _ => rfl), PySem.W.mg_of X G a25,
    ⟨⟨_, _, _, _, _, _, _, _, rfl, l26, c26⟩⟩, k26, (F26.binds (ps := P__law_saying) fun _ _ _ _ _ _ us hl => match us, hl with | [_, _, _, _], _ => rfl), PySem.W.mg_of X G a26,
    ⟨⟨_, _, _, _, _, _, _, _, rfl, l27, c27⟩⟩, k27, (F27.binds (ps := P__law_times) fun _ _ _ _ _ _ us hl => match us, hl with | [_, _, _], _ => rfl), PySem.W.mg_of X G a27,
    ⟨⟨_, _, _, _, _, _, _, _, rfl, l28, c28⟩⟩, k28, (F28.binds (ps := P__law_by_turns) fun _ _ _ _ _ _ us hl => match us, hl with | [_, _, _, _, _, _, _], _ => rfl), PySem.W.mg_of X G a28,
    ⟨⟨_, _, _, _, _, _, _, _, rfl, l29, c29⟩⟩, k29, (F29.binds (ps := P_law) fun _ _ _ _ _ _ us hl => match us, hl with | [_], _ => rfl), PySem.W.mg_of X G a29,
    PySem.W.mg_none_of X G z0,
    PySem.W.mg_none_of X G z1,
    PySem.W.mg_none_of X G z2,
    PySem.W.mg_none_of X G z3,
    PySem.W.mg_none_of X G z4,
    PySem.W.mg_none_of X G z5,
    PySem.W.mg_none_of X G z6,
    PySem.W.mg_none_of X G z7,
    PySem.W.mg_none_of X G z8,
    PySem.W.mg_none_of X G z9,
    PySem.W.mg_none_of X G z10,
    PySem.W.mg_none_of X G z11,
    PySem.W.mg_of X G da0,
    ⟨_, _, _, dl0, dk0, de0_0, rfl⟩,
    ⟨_, _, _, dl0, dk0, de0_1, rfl⟩,
    ⟨_, _, _, dl0, dk0, de0_2, rfl⟩,
    ⟨fun s us ws _ hl => kb_to_keeps_model_filling s us ws hl, fun r q => kb_rel_keeps_model_filling r q⟩,
    ⟨fun s us ws _ hl => kb_to_keeps_saying_model_name_filling s us ws hl, fun r q => kb_rel_keeps_saying_model_name_filling r q⟩⟩
  have tbs : ∀ p ∈ ([(g0, t0), (g10, t10)] : List (Addr × Addr)), (PySem.W.CodeHd h p.1 p.2 ∧ h.get? p.2 = some { cls := .none, data := .fields #[] }) ∧ K.lookup p.2 = none := fun p hp => by
    simp only [List.mem_cons, List.not_mem_nil, or_false] at hp
    rcases hp with hp | hp
    · subst hp; exact ⟨tb _ _ _ r0 (tabIn_of a0 l0 rfl v0 q0), n0⟩
    · subst hp; exact ⟨tb _ _ _ r10 (tabIn_of a10 l10 rfl v10 q10), n10⟩
  refine ⟨D.d_law, [(g0, t0), (g10, t10)], spD K A.tabs [] 1 f_law, fun p hp => (tbs p hp).1.2, fun p hp => (tbs p hp).2, fun p hp => (tbs p hp).1.1, fun s v => .of_eq rfl, fun H a ns hl _ hH hS => law_sp law_all H a ns hl (fun P hP => ?_) hS, fun base _ _ TB => ok_law (T base fun p hp => ⟨(TB p hp).code, (TB p hp).bm, (TB p hp).gP⟩)⟩
  have hP : P ∈ ([t0, t10] : List Addr) := hP
  simp only [List.mem_cons, List.not_mem_nil, or_false] at hP
  rcases hP with hP | hP
  · rw [hP]; exact hH (g0, t0) (by simp)
  · rw [hP]; exact hH (g10, t10) (by simp)
end K05W
open PySem PySem.W PyProof.Rows
set_option maxRecDepth 100000 in
set_option maxHeartbeats 0 in
theorem PySem.Challenge.cw_aswritten_k05_products_aheads_and_machin_holds : PySem.Challenge.rw_aswritten_k05_products_aheads_and_machin.Holds := by
  w_on; o_law; k_head; (case hw => w_witness2)
  k_fill
  refine PD.walk_ofTabs (l := PySem.Challenge.rw_aswritten_k05_products_aheads_and_machin) (n := 63) (k := 10) (x := "script") (CX := fun _ => L2.CX0) rfl (by decide) rfl ⟨rfl, by decide, by decide⟩ (fun w h Y => PySem.W.kIn_of Y) ?F (fun _ _ _ _ _ h => h)
  case F =>
    intro w mg fa h KX G hmg tb
    refine' K05W.all_mk KX G hmg tb ?a0 ?l0 ?c0 ?k0 ?a1 ?l1 ?c1 ?k1 ?a2 ?l2 ?c2 ?k2 ?a3 ?l3 ?c3 ?k3 ?a4 ?l4 ?c4 ?k4 ?a5 ?l5 ?c5 ?k5 ?a6 ?l6 ?c6 ?k6 ?a7 ?l7 ?c7 ?k7 ?a8 ?l8 ?c8 ?k8 ?a9 ?l9 ?c9 ?k9 ?a10 ?l10 ?c10 ?k10 ?a11 ?l11 ?c11 ?k11 ?a12 ?l12 ?c12 ?k12 ?a13 ?l13 ?c13 ?k13 ?a14 ?l14 ?c14 ?k14 ?a15 ?l15 ?c15 ?k15 ?a16 ?l16 ?c16 ?k16 ?a17 ?l17 ?c17 ?k17 ?a18 ?l18 ?c18 ?k18 ?a19 ?l19 ?c19 ?k19 ?a20 ?l20 ?c20 ?k20 ?a21 ?l21 ?c21 ?k21 ?a22 ?l22 ?c22 ?k22 ?a23 ?l23 ?c23 ?k23 ?a24 ?l24 ?c24 ?k24 ?a25 ?l25 ?c25 ?k25 ?a26 ?l26 ?c26 ?k26 ?a27 ?l27 ?c27 ?k27 ?a28 ?l28 ?c28 ?k28 ?a29 ?l29 ?c29 ?k29 ?r0 ?v0 ?q0 ?n0 ?r10 ?v10 ?q10 ?n10 ?z0 ?z1 ?z2 ?z3 ?z4 ?z5 ?z6 ?z7 ?z8 ?z9 ?z10 ?z11 ?da0 ?dl0 ?dk0 ?de0_0 ?de0_1 ?de0_2
    (case a0 => k_is); (case l0 => k_is); (case c0 => k_is); (case k0 => k_is)
    (case a1 => k_is); (case l1 => k_is); (case c1 => k_is); (case k1 => k_is)
    (case a2 => k_is); (case l2 => k_is); (case c2 => k_is); (case k2 => k_is)
    (case a3 => k_is); (case l3 => k_is); (case c3 => k_is); (case k3 => k_is)
    (case a4 => k_is); (case l4 => k_is); (case c4 => k_is); (case k4 => k_is)
    (case a5 => k_is); (case l5 => k_is); (case c5 => k_is); (case k5 => k_is)
    (case a6 => k_is); (case l6 => k_is); (case c6 => k_is); (case k6 => k_is)
    (case a7 => k_is); (case l7 => k_is); (case c7 => k_is); (case k7 => k_is)
    (case a8 => k_is); (case l8 => k_is); (case c8 => k_is); (case k8 => k_is)
    (case a9 => k_is); (case l9 => k_is); (case c9 => k_is); (case k9 => k_is)
    (case a10 => k_is); (case l10 => k_is); (case c10 => k_is); (case k10 => k_is)
    (case a11 => k_is); (case l11 => k_is); (case c11 => k_is); (case k11 => k_is)
    (case a12 => k_is); (case l12 => k_is); (case c12 => k_is); (case k12 => k_is)
    (case a13 => k_is); (case l13 => k_is); (case c13 => k_is); (case k13 => k_is)
    (case a14 => k_is); (case l14 => k_is); (case c14 => k_is); (case k14 => k_is)
    (case a15 => k_is); (case l15 => k_is); (case c15 => k_is); (case k15 => k_is)
    (case a16 => k_is); (case l16 => k_is); (case c16 => k_is); (case k16 => k_is)
    (case a17 => k_is); (case l17 => k_is); (case c17 => k_is); (case k17 => k_is)
    (case a18 => k_is); (case l18 => k_is); (case c18 => k_is); (case k18 => k_is)
    (case a19 => k_is); (case l19 => k_is); (case c19 => k_is); (case k19 => k_is)
    (case a20 => k_is); (case l20 => k_is); (case c20 => k_is); (case k20 => k_is)
    (case a21 => k_is); (case l21 => k_is); (case c21 => k_is); (case k21 => k_is)
    (case a22 => k_is); (case l22 => k_is); (case c22 => k_is); (case k22 => k_is)
    (case a23 => k_is); (case l23 => k_is); (case c23 => k_is); (case k23 => k_is)
    (case a24 => k_is); (case l24 => k_is); (case c24 => k_is); (case k24 => k_is)
    (case a25 => k_is); (case l25 => k_is); (case c25 => k_is); (case k25 => k_is)
    (case a26 => k_is); (case l26 => k_is); (case c26 => k_is); (case k26 => k_is)
    (case a27 => k_is); (case l27 => k_is); (case c27 => k_is); (case k27 => k_is)
    (case a28 => k_is); (case l28 => k_is); (case c28 => k_is); (case k28 => k_is)
    (case a29 => k_is); (case l29 => k_is); (case c29 => k_is); (case k29 => k_is)
    (case r0 => decide +kernel); (case v0 => k_is); (case q0 => rfl); (case n0 => rfl)
    (case r10 => decide +kernel); (case v10 => k_is); (case q10 => rfl); (case n10 => rfl)
    (case z0 => k_is)
    (case z1 => k_is)
    (case z2 => k_is)
    (case z3 => k_is)
    (case z4 => k_is)
    (case z5 => k_is)
    (case z6 => k_is)
    (case z7 => k_is)
    (case z8 => k_is)
    (case z9 => k_is)
    (case z10 => k_is)
    (case z11 => k_is)
    (case da0 => k_is); (case dl0 => k_is); (case dk0 => k_keys)
    (case de0_0 => k_is)
    (case de0_1 => k_is)
    (case de0_2 => k_is)

