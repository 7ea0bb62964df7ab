import PyProof.Rows.All
import Wide.All
import OpenK.AllK
import Wide.FinOn
import HandS.ForMost
import HandS.More
import HandS.IsInst
import HandS.Style
import HandS.Walk
import HandS.AnyAll
import HandS.GenList
import HandS.Lambda
import HandS.TupAny
import HandS.TupLe
import HandS.Deep
import HandS.SortInts
import HandS.Codes
import HandS.Text
import HandS.Small
import HandS.RaiseMore
import HandS.Zip
import HandS.Words
import HandS.DictComp
import HandS.SetFor
import HandS.Strs
import HandS.Conv
import HandS.WrittenGet
import HandS.Dict
import KE.GoesZip
import KE.GoesMore
import KE.GoesEnum
import HandS.TupSets
import HandS.TupLen
import KE.DataCmp
import HandS.Star
import PyProof.Rows.SortStr
import PyProof.Rows.StrMeet
import PyProof.ListStr
import KE.KTupSum
import HandS.Rev
import KE.SortData
import KE.KDictPairs
import HandS.Iter
import PyProof.P3Eq
import HandS.SortKw
import KE.SortKeyed
import HandS.SetBool
import HandS.TupMul
import HandS.Comp
import HandS.SetKeys
import KE.DatumOrd
import HandS.EndTab
import PySem.Challenge.RW_aswritten_k17_telling_rows_of_sums
set_option Elab.async false
set_option linter.all false
set_option Elab.async false
set_option linter.all false
set_option maxRecDepth 100000
namespace OwnK
open PySem PySem.Spec PyProof.Rows L2
section
variable {X : Cx} {CX : CXT} {k : Nat} {f : Addr} {fd : FuncData} {ps ks : List Str} {sp : Sp} {E : XK} {x : Str} {p pos : Pos} {kws : List Keyword} {tk : TA} {g : List Value → List Value → List Value} {gV : List V → List V → List V}
theorem pe_callK0 (F : FnOk X.prog X.w X.K X.mg X.base CX k f fd ps sp) (hr : Room k X.A) (hg : Gl X x) (hm : X.mg x = some (.ref f)) (hk : PySem.W.keepIn X.K (.ref f) = true) (hb : KBinds X.K fd ps ks g gV) (hx : Passes CX X E)
    (hkw : PK X kws tk) (hall : (backToKw pos (keywordEach kws X.env)).all (·.1.isSome) = true := by rfl) (hks : (backToKw pos (keywordEach kws X.env)).filterMap (·.1) = ks := by rfl)
    (hdb : (x == ("__debug__" : Str)) = false := by decide)
    (hpl : ((backTo pos (starEach [] X.env)).any (·.1) || (backToKw pos (keywordEach kws X.env)).any (·.1.isNone)) = false := by rfl) :
    PE X (.Call (.Name x p) [] kws pos) (tCallK sp gV E tNil tk) := by
  refine ⟨fun pins s σ H Q I h => ?_⟩
  refine wpAny_Call_Name_kw (ld_glob I hg hm ?_ hdb)
  refine PySem.W.callWith_KW0 (h₀ := X.base) I.ok.mod.kin hk hall ?_ hpl
  refine thn (hkw.run pos pins s σ H _ I h) fun ws s2 ⟨zs, H2, I2, rz, q2⟩ => ⟨I2.kIn, ?_⟩
  rw [hks]
  exact run_fnk (us := []) (vs := []) F hr hb hx I2 .nil rz q2
end
section
variable {X : Cx} {K : PySem.W.Frag} {a : Expr} {ta : TE} {tg : Expr}
end
end OwnK
set_option Elab.async false
set_option linter.all false
set_option maxRecDepth 100000
set_option maxHeartbeats 2000000
namespace GenX
open PySem PySem.Spec PyProof.Rows L2 GxR GenW
section
variable {X : Cx} {pins : List (Addr × Obj)} {σ : L2.St} {H : Hp} {s : Shared}
structure Wk (S : List Addr) (s s' : Shared) : Prop where
  os : s'.os = s.os
  bare : AllBare s'.gens
  keep : ∀ b o, b ∉ S → s.heap.get? b = some o → s'.heap.get? b = some o
  own : ∀ b ∈ S, ∃ o, s'.heap.get? b = some o ∧ ∀ v, o.data ≠ .cell v
def SOk (X : Cx) (S : List Addr) : Prop := ∀ b ∈ S, b ≠ X.env.locals ∧ b ∉ X.fs ∧ (b ∈ X.ex ∨ X.s_0.heap.objs.size ≤ b) ∧ (∀ x c, X.env.cells.lookup x = some c → c ≠ b) ∧ ∀ p ∈ X.pn, p.1 ≠ b
theorem SOk.fp {S : List Addr} (h : SOk X S) (hn : ∀ b ∈ S, H b = none) : ∀ b ∈ S, FpOk X [] H b := fun b hb =>
  let ⟨h1, h2, h3, h4, h5⟩ := h b hb
  ⟨hn b hb, h1, h2, h3, h4, fun p hp => h5 p (by simpa using hp)⟩
end
section
variable {X : Cx}
structure Wq (S : List Addr) (s s' : Shared) : Prop where
  os : s'.os = s.os
  gens : s'.gens = s.gens
  keep : ∀ b o, b ∉ S → s.heap.get? b = some o → s'.heap.get? b = some o
  own : ∀ b ∈ S, ∃ o, s'.heap.get? b = some o ∧ ∀ v, o.data ≠ .cell v
def KeepS (S : List Addr) (s s' : Shared) : Prop := ∀ b ∈ S, ∀ o, s.heap.get? b = some o → s'.heap.get? b = some o
def Pull (X : Cx) (pins : List (Addr × Obj)) (σ : L2.St) (U : List V → V → Hp → (Hp → Prop) → Prop) (Qd : List V → Hp → Prop) (a : Addr) (S : List Addr) (Gh : List V → Heap → Prop) : Nat → List V → Shared → Prop
  | 0 => fun ys s => ∀ s', Wq S s s' → Gh ys s'.heap → wpAny (model X.prog X.w) X.A.in1 (pyNext (.ref a)) (fun r s1 => KeepS S s' s1 ∧ match r with
    | none => ∃ ys H, Gh ys s'.heap ∧ Inv X pins σ H s1 ∧ Qd ys H
    | some v => ∃ ys y H Nx, Gh ys s'.heap ∧ RelV y v ∧ Inv X pins σ H s1 ∧ U ys y H Nx ∧ (Nx H → ∀ s'', Wq S s1 s'' → ¬ Gh (ys ++ [y]) s''.heap)) (fun _ _ => False) s'
  | n + 1 => fun ys s => ∀ s', Wq S s s' → Gh ys s'.heap → wpAny (model X.prog X.w) X.A.in1 (pyNext (.ref a)) (fun r s1 => KeepS S s' s1 ∧ match r with
    | none => ∃ ys H, Gh ys s'.heap ∧ Inv X pins σ H s1 ∧ Qd ys H
    | some v => ∃ ys y H Nx, Gh ys s'.heap ∧ RelV y v ∧ Inv X pins σ H s1 ∧ U ys y H Nx ∧ (Nx H → Pull X pins σ U Qd a S Gh n (ys ++ [y]) s1)) (fun _ _ => False) s'
def TabN (H : Hp) (P : Addr) : Prop := ∃ ps : Array Value, H P = some (.tbl ps) ∧ TriplesOk ps.toList ∧ ∀ (at_ : Pos) (cv : Value), codeAmong at_ ps.toList = some cv → ∃ c q, cv = .ref c ∧ H c = some (LamX.CodeO c q)
theorem TabN.nil {H : Hp} {P : Addr} (h : H P = some (.tbl #[])) : TabN H P := ⟨#[], h, True.intro, fun at_ cv hc => by
  have z : codeAmong at_ [] = some cv := hc
  simp [codeAmong] at z⟩
end
end GenX
set_option Elab.async false
set_option linter.all false
set_option maxRecDepth 100000
set_option maxHeartbeats 2000000
namespace GenX
open PySem PySem.Spec PyProof.Rows L2 GxR GenW
section
variable {X : Cx} {pins : List (Addr × Obj)} {σ : L2.St} {U : List V → V → Hp → (Hp → Prop) → Prop} {Qd : List V → Hp → Prop} {a : Addr} {S : List Addr} {Gh : List V → Heap → Prop}
theorem Pull.elim {n : Nat} {ys : List V} {s s' : Shared} (h : Pull X pins σ U Qd a S Gh n ys s) (wq : Wq S s s') (hG : Gh ys s'.heap) :
    wpAny (model X.prog X.w) X.A.in1 (pyNext (.ref a)) (fun r s1 => KeepS S s' s1 ∧ match r with
    | none => ∃ ys H, Gh ys s'.heap ∧ Inv X pins σ H s1 ∧ Qd ys H
    | some v => ∃ ys y H Nx, Gh ys s'.heap ∧ RelV y v ∧ Inv X pins σ H s1 ∧ U ys y H Nx ∧ (Nx H → (∃ s'', Wq S s1 s'' ∧ Gh (ys ++ [y]) s''.heap) → ∃ m, m < n ∧ Pull X pins σ U Qd a S Gh m (ys ++ [y]) s1)) (fun _ _ => False) s' := by
  cases n with
  | zero =>
    refine thnF (h s' wq hG) fun r s1 ⟨k, q⟩ => ⟨k, ?_⟩
    cases r with
    | none => exact q
    | some v =>
      obtain ⟨ys', y, H, Nx, q1, q2, q3, q4, q5⟩ := q
      exact ⟨ys', y, H, Nx, q1, q2, q3, q4, fun hn ⟨s'', w, g⟩ => (q5 hn s'' w g).elim⟩
  | succ n =>
    refine thnF (h s' wq hG) fun r s1 ⟨k, q⟩ => ⟨k, ?_⟩
    cases r with
    | none => exact q
    | some v =>
      obtain ⟨ys', y, H, Nx, q1, q2, q3, q4, q5⟩ := q
      exact ⟨ys', y, H, Nx, q1, q2, q3, q4, fun hn _ => ⟨n, Nat.lt_succ_self _, q5 hn⟩⟩
end
end GenX
set_option Elab.async false
set_option linter.all false
set_option maxRecDepth 100000
set_option maxHeartbeats 2000000
namespace FrzT
open PySem PySem.Spec PyProof.Rows L2
def TupF (H : Hp) (a : Addr) (xs : List V) : Prop := ∃ o : Obj, H a = some (.frz o (.tup xs)) ∧ o.cls = .type "tuple" ∧ o.dict = none
theorem TupF.rd {H : Hp} {a : Addr} {xs : List V} (h : TupF H a xs) : Rd H a (.tup xs) := let ⟨o, e, _⟩ := h; .inr ⟨o, e⟩
def LayT (H : Hp) (xs : List V) (Q : VK) : Prop := ∀ q o, H q = none → o.cls = .type "tuple" → o.dict = none → Q (.ref q) (upd H q (.frz o (.tup xs)))
theorem lay_frz {X : Cx} {pins : List (Addr × Obj)} {σ : L2.St} {H : Hp} {s : Shared} {Q : VK} {its : List Value} {ys : List V} (I : Inv X pins σ H s) (r : Vals ys its) (hz : ys.length ≤ sizeLine) (q : LayT H ys Q) :
    EP X pins σ Q (.ref s.heap.objs.size) { s with heap := s.heap.push { cls := .type "tuple", data := .seq its.toArray } } :=
  ⟨.ref s.heap.objs.size, upd H s.heap.objs.size (.frz { cls := .type "tuple", data := .seq its.toArray } (.tup ys)), I.laid (t' := s.toks) (fun b u e => Heap.get?_push_of_some _ e) (Nat.le_refl _) (show ObjOk X.prog X.w _ _ _ (.frz { cls := .type "tuple", data := .seq its.toArray } (.tup ys)) from ⟨Heap.get?_push_size _ rfl, hz, its, r, IsTup.new _ _⟩), rfl, q _ _ (I.hok.fresh (Nat.le_refl _)) rfl rfl⟩
section
variable {X : Cx} {es : List Expr} {t : TA} {pos : Pos}
def tTupF (t : TA) : TE := fun σ H Q => t σ H fun vs H1 => vs.length ≤ sizeLine ∧ LayT H1 vs Q
theorem pe_tupF {x1} (h : PA X es t) : PE X (.Tuple es x1 pos) (tTupF t) := by
  refine ⟨fun pins s σ H Q I hq => ?_⟩
  refine wpAny_Tuple_spliced (thn (h.run pos pins s σ H _ I hq) fun us s1 ⟨xs, H1, I1, r, z, q⟩ => ⟨by rw [← r.length]; exact z, ?_⟩)
  have hf : H1 s1.heap.objs.size = none := I1.hok.fresh (Nat.le_refl _)
  refine ⟨.ref s1.heap.objs.size, upd H1 s1.heap.objs.size (.frz { cls := .type "tuple", data := .seq us.toArray } (.tup xs)), I1.laid (t' := s1.toks) (fun b u e => Heap.get?_push_of_some _ e) (Nat.le_refl _) ?_, rfl, q _ _ hf rfl rfl⟩
  exact ⟨Heap.get?_push_size _ rfl, z, us, r, ⟨_, Heap.get?_push_size _ rfl, rfl, _, rfl⟩⟩
theorem call_tuple_ofF : CallR X (.type "tuple") (fun xs H Q => ∃ p ys, xs = [.ref p] ∧ ((SqL X.K H p ys ∧ LayT H ys Q) ∨ (SqT X.K H p ys ∧ Q (.ref p) H))) := by
  intro pins s σ H xs us Q I r h
  obtain ⟨p, ys, rfl, h⟩ := h
  obtain ⟨u, rfl, rx⟩ := vals1 r
  cases rx
  rcases h with ⟨hq, q⟩ | ⟨hq, q⟩
  · obtain ⟨its, r', pl, hz⟩ := I.list hq
    have hlen := r'.length
    refine call_tuple_list pl.isList (fun h' kp => ?_) (by simp only [List.size_toArray] <;> omega)
    have I1 : Inv X pins σ H { s with heap := h' } := I.kept (t' := s.toks) kp
    have I2 : Inv X pins σ (upd H h'.objs.size (.frz { cls := .type "tuple", data := .seq its.toArray } (.tup ys))) { s with heap := h'.push { cls := .type "tuple", data := .seq its.toArray } } :=
      I1.laid (t' := s.toks) (fun b o e => Heap.get?_push_of_some _ e) (Nat.le_refl _) (show ObjOk X.prog X.w _ _ _ (.frz { cls := .type "tuple", data := .seq its.toArray } (.tup ys)) from ⟨Heap.get?_push_size _ rfl, hz, its, r', IsTup.new _ _⟩)
    exact ⟨.ref h'.objs.size, _, I2, rfl, q _ _ (I1.hok.fresh (Nat.le_refl _)) rfl rfl⟩
  · obtain ⟨its, r', pl, hz⟩ := I.tuple hq
    exact call_tuple_same pl ⟨.ref p, H, I, rfl, q⟩
def rSlTF (K : PySem.W.Frag) : V → Option Int → Option Int → Hp → VK → Prop := fun x lo hi H Q => ∃ a xs, x = .ref a ∧ SqT K H a xs ∧
  ¬ (HT.sIx xs.length 0 lo = 0 ∧ HT.sIx xs.length xs.length hi = xs.length) ∧ LayT H (cutV xs lo hi) Q
theorem sl_tupF : SlR X (rSlTF X.K) := by
  intro pins s σ H x v vl vu lo hi sl Q I rx hs pl pu h
  obtain ⟨a, xs, rfl, hx, hw, q⟩ := h
  cases rx
  obtain ⟨its, r, ht, hz⟩ := I.tuple hx
  have hlen : its.toArray.size = xs.length := by rw [List.size_toArray]; exact r.length.symm
  refine ⟨"tuple", _, PyProof.Rows.slot_tuple_getitem.lookup, ht.typeIs, ?_⟩
  refine HT.getItem_tuple_cut ht hs pl pu (by rw [hlen]; exact hw) ?_ (by rw [hlen]; exact hz)
  rw [hlen]
  exact lay_frz I ((r.drop (HT.sIx xs.length 0 lo)).take (HT.sIx xs.length xs.length hi - HT.sIx xs.length 0 lo)) (Nat.le_trans (cutV_length xs lo hi) hz) q
def rCatTF (K : PySem.W.Frag) : R2 := fun x y H Q => ∃ a b xs ys, x = .ref a ∧ y = .ref b ∧ SqT K H a xs ∧ SqT K H b ys ∧ xs ≠ [] ∧ xs.length + ys.length ≤ sizeLine ∧
  (ys = [] → Q (.ref a) H) ∧ (ys ≠ [] → LayT H (xs ++ ys) Q)
theorem op_catTF : OpR X (binaryOp .Add) (rCatTF X.K) := by
  intro pins s σ H x y v u Q I rx ry h
  obtain ⟨a, b, xs, ys, rfl, rfl, ha, hb, hx, hz, q1, q2⟩ := h
  cases rx
  cases ry
  obtain ⟨its, r1, p1, _⟩ := I.tuple ha
  obtain ⟨its2, r2, p2, _⟩ := I.tuple hb
  refine HT.cat_tup p1 p2 (fun z => hx (r1.nil_iff.mp z)) (fun z => ⟨.ref a, H, I, rfl, q1 (r2.nil_iff.mp z)⟩) (fun z => ?_) (by rw [← r1.length, ← r2.length]; exact hz)
  exact lay_frz I (r1.append r2) (by rw [List.length_append]; exact hz) (q2 fun w => z (r2.nil_iff.mpr w))
def rCatAF (K : PySem.W.Frag) : R2 := fun x y H Q => ∃ a b xs ys, x = .ref a ∧ y = .ref b ∧ SqT K H a xs ∧ SqT K H b ys ∧ xs.length + ys.length ≤ sizeLine ∧
  (xs = [] → Q (.ref b) H) ∧ (xs ≠ [] → ys = [] → Q (.ref a) H) ∧ (xs ≠ [] → ys ≠ [] → LayT H (xs ++ ys) Q)
theorem op_catAF : OpR X (binaryOp .Add) (rCatAF X.K) := by
  intro pins s σ H x y v u Q I rx ry h
  obtain ⟨a, b, xs, ys, rfl, rfl, ha, hb, hz, q0, q1, q2⟩ := h
  by_cases hx : xs = []
  · exact op_catA pins s σ H _ _ v u Q I rx ry ⟨a, b, xs, ys, rfl, rfl, ha, hb, hz, q0, fun z => absurd hx z, fun z => absurd hx z⟩
  · exact op_catTF pins s σ H _ _ v u Q I rx ry ⟨a, b, xs, ys, rfl, rfl, ha, hb, hx, hz, q1 hx, q2 hx⟩
def rSlAF (K : PySem.W.Frag) : V → Option Int → Option Int → Hp → VK → Prop := fun x lo hi H Q => ∃ a xs, x = .ref a ∧ SqT K H a xs ∧
  (HT.sIx xs.length 0 lo = 0 ∧ HT.sIx xs.length xs.length hi = xs.length → Q (.ref a) H) ∧ (¬ (HT.sIx xs.length 0 lo = 0 ∧ HT.sIx xs.length xs.length hi = xs.length) → LayT H (cutV xs lo hi) Q)
theorem sl_tupAF : SlR X (rSlAF X.K) := by
  intro pins s σ H x v vl vu lo hi sl Q I rx hs pl pu h
  obtain ⟨a, xs, rfl, hx, q1, q2⟩ := h
  by_cases hw : HT.sIx xs.length 0 lo = 0 ∧ HT.sIx xs.length xs.length hi = xs.length
  · exact sl_tupA pins s σ H _ v vl vu lo hi sl Q I rx hs pl pu ⟨a, xs, rfl, hx, q1, fun z => absurd hw z⟩
  · exact sl_tupF pins s σ H _ v vl vu lo hi sl Q I rx hs pl pu ⟨a, xs, rfl, hx, hw, q2 hw⟩
end
end FrzT
set_option Elab.async false
set_option linter.all false
set_option maxRecDepth 100000
set_option maxHeartbeats 2000000
namespace PD
open PySem PySem.Spec PyProof.Rows L2 GxR GenX
abbrev D := PyData
structure KWd where
  K : PySem.W.Frag
  w : World
instance : Coe KWd PySem.W.Frag := ⟨KWd.K⟩
abbrev _root_.L2.Cx.kw (X : L2.Cx) : KWd := ⟨X.K, X.w⟩
theorem _root_.Eq.kwK {X : L2.Cx} {W : KWd} (h : X.kw = W) : X.K = W.K := congrArg KWd.K h
theorem _root_.Eq.kww {X : L2.Cx} {W : KWd} (h : X.kw = W) : X.w = W.w := congrArg KWd.w h
def kD : Key → D
  | .inl i => .int i
  | .inr x => .str x
def KL (K : PySem.W.Frag) (a : Addr) (xs : List V) : Prop := ∃ (o : Obj) (its : Array Value) (n : Nat), K.lookup a = some o ∧ o.cls = .type "list" ∧ o.dict = none ∧ o.data = .seq its n ∧ its.size ≤ sizeLine ∧ Vals xs its.toList
def KT (K : PySem.W.Frag) (a : Addr) (xs : List V) : Prop := ∃ (o : Obj) (its : Array Value) (n : Nat), K.lookup a = some o ∧ o.cls = .type "tuple" ∧ o.dict = none ∧ o.data = .seq its n ∧ its.size ≤ sizeLine ∧ Vals xs its.toList
theorem KT.sq {K : PySem.W.Frag} {a : Addr} {xs : List V} (h : KT K a xs) : ∃ (o : Obj) (its : Array Value) (n : Nat), K.lookup a = some o ∧ o.cls = .type "tuple" ∧ o.data = .seq its n ∧ its.size ≤ sizeLine ∧ Vals xs its.toList := let ⟨o, its, n, e, c, _, r⟩ := h; ⟨o, its, n, e, c, r⟩
def hashT (w : World) (ks : List Key) : Int := PySem.reduceHash (PySem.Builtin.Tuple.tupleHashOf (ks.map (L2.keyH w)))
def TDict (w : World) (a : Addr) (xs : List (List Key × Addr × Value)) (h : Heap) : Prop :=
  (a == sysModules) = false ∧ xs.length ≤ sizeLine ∧ ∃ o es ep, h.get? a = some o ∧ o.ExactDict ∧ o.data = .dict es ep ∧ es.toList = xs.map (fun x => (⟨hashT w x.1, .ref x.2.1, x.2.2⟩ : DictEntry)) ∧ (xs.map (·.1)).Nodup
def KeyAt (K : KWd) (S : Addr → Prop) (H : Hp) (b : Addr) (ks : List Key) : Prop := (¬ S b ∧ FrzT.TupF H b (ks.map kV)) ∨ KT K b (ks.map kV)
def isT : List (D × D) → Bool
  | (.list _, _) :: _ => true
  | _ => false
def Fz (H : Hp) (a : Addr) (u : HO) : Prop := ∃ o, H a = some (.frz o u)
theorem Fz.rd {H : Hp} {a : Addr} {u : HO} (h : Fz H a u) : Rd H a u := .inr h
mutual
inductive RelD (K : KWd) (S : Addr → Prop) (H : Hp) : V → D → Prop
  | non : RelD K S H .non .none
  | bl (b : Bool) : RelD K S H (.bl b) (.bool b)
  | int (i : Int) : RelD K S H (.int i) (.int i)
  | str (x : Str) : RelD K S H (.str x) (.str x)
  | lst {a : Addr} {xs : List V} {ds : List D} : ¬ S a → Rd H a (.lst xs) → RelDs K S H xs ds → RelD K S H (.ref a) (.list ds)
  | lstK {a : Addr} {xs : List V} {ds : List D} : KL K a xs → RelDs K S H xs ds → RelD K S H (.ref a) (.list ds)
  | tup {a : Addr} {xs : List V} {ds : List D} : ¬ S a → FrzT.TupF H a xs → RelDs K S H xs ds → RelD K S H (.ref a) (.tuple ds)
  | tupK {a : Addr} {xs : List V} {ds : List D} : KT K a xs → RelDs K S H xs ds → RelD K S H (.ref a) (.tuple ds)
  | dic {a : Addr} {kvs : List (Key × V)} {ds : List (D × D)} : ¬ S a → Fz H a (.dK kvs) → RelKs K S H kvs ds → RelD K S H (.ref a) (.dict ds)
  | dit {a : Addr} {xs : List (List Key × Addr × Value)} {ds : List (D × D)} : ¬ S a → Fz H a (.ext (TDict K.w a xs)) → RelMk K S H xs ds → RelD K S H (.ref a) (.dict ds)
inductive RelDs (K : KWd) (S : Addr → Prop) (H : Hp) : List V → List D → Prop
  | nil : RelDs K S H [] []
  | cons {v : V} {vs : List V} {d : D} {ds : List D} : RelD K S H v d → RelDs K S H vs ds → RelDs K S H (v :: vs) (d :: ds)
inductive RelKs (K : KWd) (S : Addr → Prop) (H : Hp) : List (Key × V) → List (D × D) → Prop
  | nil : RelKs K S H [] []
  | cons {k : Key} {v : V} {kvs : List (Key × V)} {d : D} {ds : List (D × D)} : RelD K S H v d → RelKs K S H kvs ds → RelKs K S H ((k, v) :: kvs) ((kD k, d) :: ds)
inductive RelMk (K : KWd) (S : Addr → Prop) (H : Hp) : List (List Key × Addr × Value) → List (D × D) → Prop
  | mk {xs : List (List Key × Addr × Value)} {ds : List (D × D)} : RelTs K S H xs ds → RelMk K S H xs ((.list [], .none) :: ds)
inductive RelTs (K : KWd) (S : Addr → Prop) (H : Hp) : List (List Key × Addr × Value) → List (D × D) → Prop
  | nil : RelTs K S H [] []
  | cons {ks : List Key} {b : Addr} {u : Value} {v : V} {d : D} {xs : List (List Key × Addr × Value)} {ds : List (D × D)} : KeyAt K S H b ks → RelV v u → RelD K S H v d → RelTs K S H xs ds → RelTs K S H ((ks, b, u) :: xs) ((.tuple (ks.map kD), d) :: ds)
end
structure Gro (C : Addr → Prop) (H H' : Hp) : Prop where
  keep : ∀ a o, H a = some o → ¬ C a → (∀ ps, o ≠ .tbl ps) → H' a = some o
  tabs : ∀ P, TabN H P → TabN H' P
  live : ∀ a, H a ≠ none → H' a ≠ none
def Ext (H H' : Hp) : Prop := ∀ a o, H a = some o → H' a = some o
theorem Ext.refl (H : Hp) : Ext H H := fun _ _ e => e
theorem Ext.trans {H H1 H2 : Hp} (a : Ext H H1) (b : Ext H1 H2) : Ext H H2 := fun x o e => b x o (a x o e)
theorem Ext.new {H : Hp} {p : Addr} {o : HO} (h : H p = none) : Ext H (upd H p o) := fun a u e => by rw [upd_ne (ne_of_none e h)]; exact e
theorem Ext.live {H H' : Hp} (h : Ext H H') {a : Addr} (n : H a ≠ none) : H' a ≠ none := by
  cases q : H a with
  | none => exact absurd q n
  | some o => rw [h a o q]; simp
theorem tabN_mv {H H' : Hp} {P : Addr} (t : TabN H P) (hP : ∀ ps, H P = some (.tbl ps) → H' P = some (.tbl ps)) (hc : ∀ c q, H c = some (LamX.CodeO c q) → H' c = some (LamX.CodeO c q)) : TabN H' P :=
  let ⟨ps, e, t, k⟩ := t
  ⟨ps, hP ps e, t, fun a v z => let ⟨c, q, e1, e2⟩ := k a v z; ⟨c, q, e1, hc c q e2⟩⟩
theorem Ext.gro {C : Addr → Prop} {H H' : Hp} (h : Ext H H') : Gro C H H' := ⟨fun a o e _ _ => h a o e, fun P t => tabN_mv t (fun ps => h _ _) fun c q => h _ _, fun a n => h.live n⟩
def codeHeap (c : Addr) (q : Str) : Heap := { objs := Array.replicate (c + 1) { cls := .none, data := .fields #[.none, .str q 0] } }
theorem codeHeap_at (c : Addr) (q : Str) : (codeHeap c q).get? c = some { cls := .none, data := .fields #[.none, .str q 0] } := by
  simp [codeHeap, Heap.get?]
theorem codeHeap_all (c : Addr) (q : Str) (a : Addr) (o : Obj) (h : (codeHeap c q).get? a = some o) : ∃ vs, o.data = .fields vs := by
  unfold codeHeap Heap.get? at h
  simp only [Array.getElem?_replicate] at h
  split at h
  · cases h
  · split at h
    · cases h; exact ⟨_, rfl⟩
    · cases h
theorem TDict.noCode {w : World} {a c : Addr} {q : Str} {xs : List (List Key × Addr × Value)} (z : HO.ext (TDict w a xs) = LamX.CodeO c q) : False := by
  unfold LamX.CodeO at z
  have e := congrFun (HO.ext.inj z) (codeHeap c q)
  obtain ⟨_, _, o, es, ep, h1, _, h2, _⟩ := e.mpr ⟨_, _, _, codeHeap_at c q, rfl, rfl⟩
  obtain ⟨vs, hv⟩ := codeHeap_all c q a o h1
  rw [hv] at h2
  cases h2
theorem Gro.refl {C : Addr → Prop} (H : Hp) : Gro C H H := (Ext.refl H).gro
theorem Gro.trans {C : Addr → Prop} {H H1 H2 : Hp} (a : Gro C H H1) (b : Gro C H1 H2) : Gro C H H2 := ⟨fun x o e n t => b.keep x o (a.keep x o e n t) n t, fun P t => b.tabs P (a.tabs P t), fun x n => b.live x (a.live x n)⟩
theorem Gro.mono {C C' : Addr → Prop} {H H' : Hp} (h : Gro C H H') (hc : ∀ a, C a → C' a) : Gro C' H H' := ⟨fun a o e n t => h.keep a o e (fun z => n (hc a z)) t, h.tabs, h.live⟩
section
variable {K : KWd} {S S' C : Addr → Prop} {H H' : Hp}
theorem Gro.rd {a : Addr} {u : HO} (g : Gro C H H') (hn : ¬ C a) (hu : ∀ ps, u ≠ .tbl ps) (h : Rd H a u) : Rd H' a u := by
  rcases h with h | ⟨o, h⟩
  · exact .inl (g.keep _ _ h hn hu)
  · exact .inr ⟨o, g.keep _ _ h hn fun ps z => nomatch z⟩
theorem Gro.fz {a : Addr} {u : HO} (g : Gro C H H') (hn : ¬ C a) (h : Fz H a u) : Fz H' a u := let ⟨o, h⟩ := h; ⟨o, g.keep _ _ h hn fun ps z => nomatch z⟩
theorem Gro.tupF {a : Addr} {xs : List V} (g : Gro C H H') (hn : ¬ C a) (h : FrzT.TupF H a xs) : FrzT.TupF H' a xs := let ⟨o, e, c, d⟩ := h; ⟨o, g.keep _ _ e hn (fun ps z => nomatch z), c, d⟩
mutual
theorem RelD.mono' (g : Gro C H H') (h1 : ∀ a, S' a → S a) (h2 : ∀ a, C a → S a) : ∀ (d : D) (v : V), RelD K S H v d → RelD K S' H' v d
  | .none, _, h => by cases h; exact .non
  | .bool b, _, h => by cases h; exact .bl b
  | .int b, _, h => by cases h; exact .int b
  | .str b, _, h => by cases h; exact .str b
  | .list ds, _, h => by
    cases h with
    | lst n s r => exact .lst (fun z => n (h1 _ z)) (g.rd (fun z => n (h2 _ z)) (fun ps z => nomatch z) s) (RelDs.mono' g h1 h2 ds _ r)
    | lstK s r => exact .lstK s (RelDs.mono' g h1 h2 ds _ r)
  | .tuple ds, _, h => by
    cases h with
    | tup n s r => exact .tup (fun z => n (h1 _ z)) (g.tupF (fun z => n (h2 _ z)) s) (RelDs.mono' g h1 h2 ds _ r)
    | tupK s r => exact .tupK s (RelDs.mono' g h1 h2 ds _ r)
  | .dict ds, _, h => by
    cases h with
    | dic n s r => exact .dic (fun z => n (h1 _ z)) (g.fz (fun z => n (h2 _ z)) s) (RelKs.mono' g h1 h2 ds _ r)
    | dit n s r => exact .dit (fun z => n (h1 _ z)) (g.fz (fun z => n (h2 _ z)) s) (RelMk.mono' g h1 h2 ds _ r)
theorem RelDs.mono' (g : Gro C H H') (h1 : ∀ a, S' a → S a) (h2 : ∀ a, C a → S a) : ∀ (d : List D) (v : List V), RelDs K S H v d → RelDs K S' H' v d
  | [], _, h => by cases h; exact .nil
  | d :: ds, _, h => by
    cases h with
    | cons r t => exact .cons (RelD.mono' g h1 h2 d _ r) (RelDs.mono' g h1 h2 ds _ t)
theorem RelKs.mono' (g : Gro C H H') (h1 : ∀ a, S' a → S a) (h2 : ∀ a, C a → S a) : ∀ (d : List (D × D)) (v : List (Key × V)), RelKs K S H v d → RelKs K S' H' v d
  | [], _, h => by cases h; exact .nil
  | (k, d) :: ds, _, h => by
    cases h with
    | cons r t => exact .cons (RelD.mono' g h1 h2 d _ r) (RelKs.mono' g h1 h2 ds _ t)
theorem RelMk.mono' (g : Gro C H H') (h1 : ∀ a, S' a → S a) (h2 : ∀ a, C a → S a) : ∀ (d : List (D × D)) (v : List (List Key × Addr × Value)), RelMk K S H v d → RelMk K S' H' v d
  | [], _, h => by cases h
  | (k, d) :: ds, _, h => by
    cases h with
    | mk r => exact .mk (RelTs.mono' g h1 h2 ds _ r)
theorem RelTs.mono' (g : Gro C H H') (h1 : ∀ a, S' a → S a) (h2 : ∀ a, C a → S a) : ∀ (d : List (D × D)) (v : List (List Key × Addr × Value)), RelTs K S H v d → RelTs K S' H' v d
  | [], _, h => by cases h; exact .nil
  | (k, d) :: ds, _, h => by
    cases h with
    | cons s q r t => exact .cons (s.imp (fun ⟨n, s⟩ => ⟨fun z => n (h1 _ z), g.tupF (fun z => n (h2 _ z)) s⟩) id) q (RelD.mono' g h1 h2 d _ r) (RelTs.mono' g h1 h2 ds _ t)
end
theorem RelD.mono {v : V} {d : D} (r : RelD K S H v d) (g : Gro C H H') (h1 : ∀ a, S' a → S a) (h2 : ∀ a, C a → S a) : RelD K S' H' v d := RelD.mono' g h1 h2 _ _ r
theorem RelDs.mono {v : List V} {d : List D} (r : RelDs K S H v d) (g : Gro C H H') (h1 : ∀ a, S' a → S a) (h2 : ∀ a, C a → S a) : RelDs K S' H' v d := RelDs.mono' g h1 h2 _ _ r
theorem RelKs.mono {v : List (Key × V)} {d : List (D × D)} (r : RelKs K S H v d) (g : Gro C H H') (h1 : ∀ a, S' a → S a) (h2 : ∀ a, C a → S a) : RelKs K S' H' v d := RelKs.mono' g h1 h2 _ _ r
theorem Rd.some {a : Addr} {u : HO} (h : Rd H a u) : H a ≠ none := by
  rcases h with h | ⟨o, h⟩ <;> rw [h] <;> simp
mutual
theorem RelD.away' {p : Addr} (hp : H p = none) (h1 : ∀ a, S' a → S a ∨ a = p) : ∀ (d : D) (v : V), RelD K S H v d → RelD K S' H v d
  | .none, _, h => by cases h; exact .non
  | .bool b, _, h => by cases h; exact .bl b
  | .int b, _, h => by cases h; exact .int b
  | .str b, _, h => by cases h; exact .str b
  | .list ds, _, h => by
    cases h with
    | lst n s r => exact .lst (fun z => (h1 _ z).elim n fun e => Rd.some s (e ▸ hp)) s (RelDs.away' hp h1 ds _ r)
    | lstK s r => exact .lstK s (RelDs.away' hp h1 ds _ r)
  | .tuple ds, _, h => by
    cases h with
    | tup n s r => exact .tup (fun z => (h1 _ z).elim n fun e => Rd.some s.rd (e ▸ hp)) s (RelDs.away' hp h1 ds _ r)
    | tupK s r => exact .tupK s (RelDs.away' hp h1 ds _ r)
  | .dict ds, _, h => by
    cases h with
    | dic n s r => exact .dic (fun z => (h1 _ z).elim n fun e => Rd.some s.rd (e ▸ hp)) s (RelKs.away' hp h1 ds _ r)
    | dit n s r => exact .dit (fun z => (h1 _ z).elim n fun e => Rd.some s.rd (e ▸ hp)) s (RelMk.away' hp h1 ds _ r)
theorem RelDs.away' {p : Addr} (hp : H p = none) (h1 : ∀ a, S' a → S a ∨ a = p) : ∀ (d : List D) (v : List V), RelDs K S H v d → RelDs K S' H v d
  | [], _, h => by cases h; exact .nil
  | d :: ds, _, h => by
    cases h with
    | cons r t => exact .cons (RelD.away' hp h1 d _ r) (RelDs.away' hp h1 ds _ t)
theorem RelKs.away' {p : Addr} (hp : H p = none) (h1 : ∀ a, S' a → S a ∨ a = p) : ∀ (d : List (D × D)) (v : List (Key × V)), RelKs K S H v d → RelKs K S' H v d
  | [], _, h => by cases h; exact .nil
  | (k, d) :: ds, _, h => by
    cases h with
    | cons r t => exact .cons (RelD.away' hp h1 d _ r) (RelKs.away' hp h1 ds _ t)
theorem RelMk.away' {p : Addr} (hp : H p = none) (h1 : ∀ a, S' a → S a ∨ a = p) : ∀ (d : List (D × D)) (v : List (List Key × Addr × Value)), RelMk K S H v d → RelMk K S' H v d
  | [], _, h => by cases h
  | (k, d) :: ds, _, h => by
    cases h with
    | mk r => exact .mk (RelTs.away' hp h1 ds _ r)
theorem RelTs.away' {p : Addr} (hp : H p = none) (h1 : ∀ a, S' a → S a ∨ a = p) : ∀ (d : List (D × D)) (v : List (List Key × Addr × Value)), RelTs K S H v d → RelTs K S' H v d
  | [], _, h => by cases h; exact .nil
  | (k, d) :: ds, _, h => by
    cases h with
    | cons s q r t => exact .cons (s.imp (fun ⟨n, s⟩ => ⟨fun z => (h1 _ z).elim n fun e => Rd.some s.rd (e ▸ hp), s⟩) id) q (RelD.away' hp h1 d _ r) (RelTs.away' hp h1 ds _ t)
end
theorem RelMk.mono {v : List (List Key × Addr × Value)} {d : List (D × D)} (r : RelMk K S H v d) (g : Gro C H H') (h1 : ∀ a, S' a → S a) (h2 : ∀ a, C a → S a) : RelMk K S' H' v d := RelMk.mono' g h1 h2 _ _ r
theorem RelMk.away {p : Addr} {v : List (List Key × Addr × Value)} {d : List (D × D)} (r : RelMk K S H v d) (hp : H p = none) (h1 : ∀ a, S' a → S a ∨ a = p) : RelMk K S' H v d := RelMk.away' hp h1 _ _ r
theorem RelMk.isT {v : List (List Key × Addr × Value)} {d : List (D × D)} (r : RelMk K S H v d) : PD.isT d = true := by
  cases r; rfl
theorem RelD.away {p : Addr} {v : V} {d : D} (r : RelD K S H v d) (hp : H p = none) (h1 : ∀ a, S' a → S a ∨ a = p) : RelD K S' H v d := RelD.away' hp h1 _ _ r
theorem RelDs.away {p : Addr} {v : List V} {d : List D} (r : RelDs K S H v d) (hp : H p = none) (h1 : ∀ a, S' a → S a ∨ a = p) : RelDs K S' H v d := RelDs.away' hp h1 _ _ r
theorem RelKs.away {p : Addr} {v : List (Key × V)} {d : List (D × D)} (r : RelKs K S H v d) (hp : H p = none) (h1 : ∀ a, S' a → S a ∨ a = p) : RelKs K S' H v d := RelKs.away' hp h1 _ _ r
theorem RelD.ext (g : Ext H H') {v : V} {d : D} (r : RelD K S H v d) : RelD K S H' v d := r.mono (C := fun _ => False) g.gro (fun _ z => z) fun _ z => z.elim
theorem RelDs.ext (g : Ext H H') {v : List V} {d : List D} (r : RelDs K S H v d) : RelDs K S H' v d := r.mono (C := fun _ => False) g.gro (fun _ z => z) fun _ z => z.elim
theorem RelKs.ext (g : Ext H H') {v : List (Key × V)} {d : List (D × D)} (r : RelKs K S H v d) : RelKs K S H' v d := r.mono (C := fun _ => False) g.gro (fun _ z => z) fun _ z => z.elim
theorem RelDs.length : ∀ {vs : List V} {ds : List D}, RelDs K S H vs ds → vs.length = ds.length
  | _, _, .nil => rfl
  | _, _, .cons _ t => congrArg (· + 1) t.length
theorem RelDs.get : ∀ {vs : List V} {ds : List D} {i : Nat} {d : D}, RelDs K S H vs ds → ds[i]? = some d → ∃ v, vs[i]? = some v ∧ RelD K S H v d
  | _, _, _, _, .nil, e => by simp at e
  | _, _, 0, _, .cons r _, e => by simp at e; subst e; exact ⟨_, rfl, r⟩
  | _, _, i + 1, d, .cons _ t, e => by
    obtain ⟨v, h1, h2⟩ := RelDs.get (i := i) (d := d) t (by simpa using e)
    exact ⟨v, by simpa using h1, h2⟩
theorem RelDs.getV : ∀ {vs : List V} {ds : List D} {i : Nat} {v : V}, RelDs K S H vs ds → vs[i]? = some v → ∃ d, ds[i]? = some d ∧ RelD K S H v d
  | _, _, _, _, .nil, e => by simp at e
  | _, _, 0, _, .cons r _, e => by simp at e; subst e; exact ⟨_, rfl, r⟩
  | _, _, i + 1, d, .cons _ t, e => by
    obtain ⟨v, h1, h2⟩ := RelDs.getV (i := i) (v := d) t (by simpa using e)
    exact ⟨v, by simpa using h1, h2⟩
theorem RelDs.append : ∀ {xs ys : List V} {ds es : List D}, RelDs K S H xs ds → RelDs K S H ys es → RelDs K S H (xs ++ ys) (ds ++ es)
  | _, _, _, _, .nil, s => s
  | _, _, _, _, .cons r t, s => .cons r (RelDs.append t s)
theorem RelDs.take : ∀ {xs : List V} {ds : List D} (n : Nat), RelDs K S H xs ds → RelDs K S H (xs.take n) (ds.take n)
  | _, _, 0, _ => .nil
  | _, _, _ + 1, .nil => .nil
  | _, _, n + 1, .cons r t => .cons r (RelDs.take n t)
theorem RelDs.drop : ∀ {xs : List V} {ds : List D} (n : Nat), RelDs K S H xs ds → RelDs K S H (xs.drop n) (ds.drop n)
  | _, _, 0, r => r
  | _, _, _ + 1, .nil => .nil
  | _, _, n + 1, .cons _ t => RelDs.drop n t
theorem RelDs.set {v : V} {d : D} (r : RelD K S H v d) : ∀ {xs : List V} {ds : List D} (i : Nat), RelDs K S H xs ds → RelDs K S H (xs.set i v) (ds.set i d)
  | _, _, _, .nil => .nil
  | _, _, 0, .cons _ t => .cons r t
  | _, _, i + 1, .cons q t => .cons q (RelDs.set r i t)
def RelO (K : KWd) (S : Addr → Prop) (H : Hp) (a : Addr) : D → Prop
  | .list ds => ∃ xs, H a = some (.lst xs) ∧ RelDs K S H xs ds
  | .dict ds => (∃ kvs, H a = some (.dK kvs) ∧ RelKs K S H kvs ds) ∨ ∃ xs, H a = some (.ext (TDict K.w a xs)) ∧ RelMk K S H xs ds
  | _ => False
theorem RelO.mono {a : Addr} {d : D} (g : Gro C H H') (h1 : ∀ a, S' a → S a) (h2 : ∀ a, C a → S a) (hn : ¬ C a) (r : RelO K S H a d) : RelO K S' H' a d := by
  cases d with
  | list ds => obtain ⟨xs, e, r⟩ := r; exact ⟨xs, g.keep _ _ e hn (fun ps z => nomatch z), r.mono g h1 h2⟩
  | dict ds =>
    rcases r with ⟨xs, e, r⟩ | ⟨xs, e, r⟩
    · exact .inl ⟨xs, g.keep _ _ e hn (fun ps z => nomatch z), r.mono g h1 h2⟩
    · exact .inr ⟨xs, g.keep _ _ e hn (fun ps z => nomatch z), r.mono g h1 h2⟩
  | _ => exact r.elim
theorem RelO.some {a : Addr} {d : D} (r : RelO K S H a d) : H a ≠ none := by
  cases d with
  | list ds => obtain ⟨xs, e, r⟩ := r; rw [e]; simp
  | dict ds => rcases r with ⟨xs, e, r⟩ | ⟨xs, e, r⟩ <;> (rw [e]; simp)
  | _ => exact r.elim
theorem RelO.away {p a : Addr} {d : D} (r : RelO K S H a d) (hp : H p = none) (h1 : ∀ a, S' a → S a ∨ a = p) : RelO K S' H a d := by
  cases d with
  | list ds => obtain ⟨xs, e, r⟩ := r; exact ⟨xs, e, r.away hp h1⟩
  | dict ds =>
    rcases r with ⟨xs, e, r⟩ | ⟨xs, e, r⟩
    · exact .inl ⟨xs, e, r.away hp h1⟩
    · exact .inr ⟨xs, e, r.away hp h1⟩
  | _ => exact r.elim
def isDc : D → Bool
  | .dict _ => true
  | _ => false
theorem RelO.relD {a : Addr} {d : D} (hd : isDc d = false) (h1 : ∀ a, S' a → S a) (hn : ¬ S' a) (r : RelO K S H a d) : RelD K S' H (.ref a) d := by
  cases d with
  | list ds => obtain ⟨xs, e, r⟩ := r; exact .lst hn (.inl e) (r.mono (C := fun _ => False) (Gro.refl _) h1 fun _ z => z.elim)
  | dict ds => cases hd
  | _ => exact r.elim
theorem RelO.mut {a : Addr} {d : D} (r : RelO K S H a d) : ∃ u, H a = Option.some u ∧ Mut (Option.some u) ∧ ∀ ps, u ≠ .tbl ps := by
  cases d with
  | list ds => obtain ⟨xs, e, r⟩ := r; exact ⟨_, e, True.intro, fun ps z => nomatch z⟩
  | dict ds => rcases r with ⟨xs, e, r⟩ | ⟨xs, e, r⟩ <;> exact ⟨_, e, True.intro, fun ps z => nomatch z⟩
  | _ => exact r.elim
theorem RelO.noCode {a : Addr} {d : D} {u : HO} (r : RelO K S H a d) (e : H a = Option.some u) : ∀ c q, u ≠ LamX.CodeO c q := by
  cases d with
  | list ds => obtain ⟨xs, e2, r⟩ := r; rw [e] at e2; cases e2; (intro c q z; first | exact PD.TDict.noCode z | (unfold LamX.CodeO at z; cases z))
  | dict ds => rcases r with ⟨xs, e2, r⟩ | ⟨xs, e2, r⟩ <;> (rw [e] at e2; cases e2; (intro c q z; first | exact PD.TDict.noCode z | (unfold LamX.CodeO at z; cases z)))
  | _ => exact r.elim
theorem gro_frz {a : Addr} {u o : HO} (h : H a = Option.some o) (hn : ∀ ps, o ≠ .tbl ps) (hc : ∀ c q, o ≠ LamX.CodeO c q := by (intro c q z; first | exact PD.TDict.noCode z | (unfold LamX.CodeO at z; cases z))) : Gro (fun b => b = a) H (upd H a u) := by
  refine ⟨fun b o' e n _ => by rw [upd_ne n]; exact e, fun P t => tabN_mv t (fun ps e => ?_) fun c q e => ?_, fun b n => ?_⟩
  · have : P ≠ a := fun z => by rw [z, h] at e; exact hn ps (Option.some.inj e)
    rw [upd_ne this]; exact e
  · have : c ≠ a := fun z => by rw [z, h] at e; exact hc _ q (Option.some.inj e)
    rw [upd_ne this]; exact e
  · by_cases z : b = a
    · rw [z, upd_same]; simp
    · rw [upd_ne z]; exact n
theorem RelO.relF {a : Addr} {d : D} {u : HO} {od : Obj} (hd : isDc d = true) (e : H a = Option.some u) (hu : S a) (h1 : ∀ a, S' a → S a) (hn : ¬ S' a) (r : RelO K S H a d) : RelD K S' (upd H a (.frz od u)) (.ref a) d := by
  have hm : ∀ {o : HO}, H a = Option.some o → (∀ ps, o ≠ .tbl ps) → (∀ c q, o ≠ LamX.CodeO c q) → Gro (fun b => b = a) H (upd H a (.frz od u)) := fun h hn hc => gro_frz h hn hc
  cases d with
  | dict ds =>
    rcases r with ⟨xs, e2, r⟩ | ⟨xs, e2, r⟩
    · rw [e] at e2; cases e2
      exact .dic hn ⟨od, upd_same⟩ (r.mono (hm e (fun ps z => nomatch z) (by (intro c q z; first | exact PD.TDict.noCode z | (unfold LamX.CodeO at z; cases z)))) h1 fun b z => z ▸ hu)
    · rw [e] at e2; cases e2
      exact .dit hn ⟨od, upd_same⟩ (r.mono (hm e (fun ps z => nomatch z) (by (intro c q z; first | exact PD.TDict.noCode z | (unfold LamX.CodeO at z; cases z)))) h1 fun b z => z ▸ hu)
  | _ => cases hd
def isBg : D → Bool
  | .tuple _ => true
  | _ => false
def BagAt (K : KWd) (S : Addr → Prop) (H : Hp) (a b : Addr) (ds : List D) : Prop :=
  ∃ (x0 x1 : Int) (gs : List Int) (vc : V) (dc : D), ds = [.int x0, .int x1, .list (gs.map .int), dc] ∧ H a = some (.lst [.int x0, .int x1, .ref b, vc]) ∧ H b = some (.lst (gs.map V.int)) ∧ RelD K S H vc dc
theorem BagAt.ne {a b : Addr} {ds : List D} (h : BagAt K S H a b ds) : a ≠ b := fun e => by
  obtain ⟨x0, x1, gs, vc, dc, _, h1, h2, _⟩ := h
  rw [e, h2] at h1
  have h3 := HO.lst.inj (Option.some.inj h1)
  have h4 := congrArg (fun l => l[2]?) h3
  simp only [List.getElem?_map, List.getElem?_cons_succ, List.getElem?_cons_zero] at h4
  cases q : gs[2]? with
  | none => rw [q] at h4; cases h4
  | some g => rw [q] at h4; cases h4
def Own (K : KWd) (S : Addr → Prop) (H : Hp) (A : Nat → Addr) (i : Nat) : D → Prop
  | .tuple ds => BagAt K S H (A i) (A (i + 1000)) ds
  | d => RelO K S H (A i) d
def Pt (A : Nat → Addr) (i : Nat) (d : D) (a : Addr) : Prop := a = A i ∨ (isBg d = true ∧ a = A (i + 1000))
theorem RelO.notB {a : Addr} {d : D} (r : RelO K S H a d) : isBg d = false := by
  cases d <;> first | rfl | exact r.elim
theorem RelO.toOwn {A : Nat → Addr} {i : Nat} {d : D} (r : RelO K S H (A i) d) : Own K S H A i d := by
  cases d <;> first | exact r | exact r.elim
theorem Own.relO {A : Nat → Addr} {i : Nat} {d : D} (r : Own K S H A i d) (h : isBg d = false) : RelO K S H (A i) d := by
  cases d <;> first | exact r | cases h
theorem Pt.of_not {A : Nat → Addr} {i : Nat} {d : D} {a : Addr} (h : isBg d = false) (p : Pt A i d a) : a = A i := p.elim id fun z => by rw [h] at z; cases z.1
theorem Pt.self {A : Nat → Addr} {i : Nat} {d : D} : Pt A i d (A i) := .inl rfl
theorem Pt.imp {A : Nat → Addr} {i : Nat} {d e : D} {a : Addr} (h : isBg d = true → isBg e = true) (p : Pt A i d a) : Pt A i e a := Or.imp id (fun z => ⟨h z.1, z.2⟩) p
theorem Own.mono {A : Nat → Addr} {i : Nat} {d : D} (g : Gro C H H') (h1 : ∀ a, S' a → S a) (h2 : ∀ a, C a → S a) (hn : ∀ a, Pt A i d a → ¬ C a) (r : Own K S H A i d) : Own K S' H' A i d := by
  cases d with
  | tuple ds =>
    obtain ⟨x0, x1, gs, vc, dc, e, e1, e2, r⟩ := r
    exact ⟨x0, x1, gs, vc, dc, e, g.keep _ _ e1 (hn _ (.inl rfl)) (fun ps z => nomatch z), g.keep _ _ e2 (hn _ (.inr ⟨rfl, rfl⟩)) (fun ps z => nomatch z), r.mono g h1 h2⟩
  | _ => exact (Own.relO r rfl).mono g h1 h2 (hn _ (.inl rfl)) |>.toOwn
theorem Own.some {A : Nat → Addr} {i : Nat} {d : D} {a : Addr} (r : Own K S H A i d) (p : Pt A i d a) : H a ≠ none := by
  cases d with
  | tuple ds =>
    obtain ⟨x0, x1, gs, vc, dc, e, e1, e2, r⟩ := r
    rcases p with p | ⟨_, p⟩
    · rw [p, e1]; simp
    · rw [p, e2]; simp
  | _ => rw [p.of_not rfl]; exact (Own.relO r rfl).some
theorem Own.away {p : Addr} {A : Nat → Addr} {i : Nat} {d : D} (r : Own K S H A i d) (hp : H p = none) (h1 : ∀ a, S' a → S a ∨ a = p) : Own K S' H A i d := by
  cases d with
  | tuple ds =>
    obtain ⟨x0, x1, gs, vc, dc, e, e1, e2, r⟩ := r
    exact ⟨x0, x1, gs, vc, dc, e, e1, e2, r.away hp h1⟩
  | _ => exact ((Own.relO r rfl).away hp h1).toOwn
theorem Own.at_ {A A' : Nat → Addr} {i j : Nat} {d : D} (r : Own K S H A i d) (h1 : A' j = A i) (h2 : isBg d = true → A' (j + 1000) = A (i + 1000)) : Own K S H A' j d := by
  cases d with
  | tuple ds => show BagAt K S H (A' j) (A' (j + 1000)) ds; rw [h1, h2 rfl]; exact r
  | _ => exact RelO.toOwn (by rw [h1]; exact Own.relO r rfl)
def RR (K : KWd) (S : Addr → Prop) (H : Hp) (v : V) (d : D) : Prop := RelD K S H v d ∨ ∃ a, v = .ref a ∧ RelO K S H a d
theorem RR.ext (g : Ext H H') {v : V} {d : D} (r : RR K S H v d) : RR K S H' v d := r.imp (·.ext g) fun ⟨a, e, r⟩ => ⟨a, e, r.mono (C := fun _ => False) g.gro (fun _ z => z) (fun _ z => z.elim) id⟩
theorem RR.list {v : V} {ds : List D} (r : RR K S H v (.list ds)) : ∃ a xs, v = .ref a ∧ SqL K H a xs ∧ RelDs K S H xs ds := by
  rcases r with r | ⟨a, e, xs, h, r⟩
  · cases r with
    | lst n s r => exact ⟨_, _, rfl, .inl s, r⟩
    | lstK s r => exact ⟨_, _, rfl, .inr s, r⟩
  · exact ⟨a, xs, e, SqL.of h, r⟩
theorem RR.tuple {v : V} {ds : List D} (r : RR K S H v (.tuple ds)) : ∃ a xs, v = .ref a ∧ SqT K H a xs ∧ RelDs K S H xs ds := by
  rcases r with r | ⟨a, e, r⟩
  · cases r with
    | tup n s r => exact ⟨_, _, rfl, .inl s.rd, r⟩
    | tupK s r => exact ⟨_, _, rfl, .inr (KT.sq s), r⟩
  · exact r.elim
theorem RR.dict2 {v : V} {ds : List (D × D)} (r : RR K S H v (.dict ds)) : (∃ a kvs, v = .ref a ∧ Rd H a (.dK kvs) ∧ RelKs K S H kvs ds) ∨ ∃ a xs, v = .ref a ∧ Rd H a (.ext (TDict K.w a xs)) ∧ RelMk K S H xs ds := by
  rcases r with r | ⟨a, e, r⟩
  · cases r with
    | dic n s r => exact .inl ⟨_, _, rfl, s.rd, r⟩
    | dit n s r => exact .inr ⟨_, _, rfl, s.rd, r⟩
  · rcases r with ⟨xs, h, r⟩ | ⟨xs, h, r⟩
    · exact .inl ⟨a, xs, e, .inl h, r⟩
    · exact .inr ⟨a, xs, e, .inl h, r⟩
theorem RR.dict {v : V} {ds : List (D × D)} (hn : isT ds = false) (r : RR K S H v (.dict ds)) : ∃ a kvs, v = .ref a ∧ Rd H a (.dK kvs) ∧ RelKs K S H kvs ds := by
  rcases r.dict2 with h | ⟨a, xs, _, _, h⟩
  · exact h
  · rw [h.isT] at hn; cases hn
theorem RR.int {v : V} {i : Int} (r : RR K S H v (.int i)) : v = .int i := by
  rcases r with r | ⟨a, e, r⟩
  · cases r; rfl
  · exact r.elim
theorem RR.bool {v : V} {i : Bool} (r : RR K S H v (.bool i)) : v = .bl i := by
  rcases r with r | ⟨a, e, r⟩
  · cases r; rfl
  · exact r.elim
theorem RR.str {v : V} {i : Str} (r : RR K S H v (.str i)) : v = .str i := by
  rcases r with r | ⟨a, e, r⟩
  · cases r; rfl
  · exact r.elim
theorem RR.none {v : V} (r : RR K S H v .none) : v = .non := by
  rcases r with r | ⟨a, e, r⟩
  · cases r; rfl
  · exact r.elim
end
abbrev Rt := (V × D) ⊕ (Addr × HO)
def RelG (K : KWd) (S : Addr → Prop) (H : Hp) : Rt → Prop
  | .inl r => RelD K S H r.1 r.2
  | .inr p => ¬ S p.1 ∧ H p.1 = some p.2 ∧ ∀ ps, p.2 ≠ .tbl ps
section
variable {K : KWd} {S S' C : Addr → Prop} {H H' : Hp}
theorem RelG.mono {r : Rt} (h : RelG K S H r) (g : Gro C H H') (h1 : ∀ a, S' a → S a) (h2 : ∀ a, C a → S a) : RelG K S' H' r := by
  cases r with
  | inl r => exact RelD.mono h g h1 h2
  | inr p => exact ⟨fun z => h.1 (h1 _ z), g.keep _ _ h.2.1 (fun z => h.1 (h2 _ z)) h.2.2, h.2.2⟩
theorem RelG.away {p : Addr} {r : Rt} (h : RelG K S H r) (hp : H p = none) (h1 : ∀ a, S' a → S a ∨ a = p) : RelG K S' H r := by
  cases r with
  | inl r => exact RelD.away h hp h1
  | inr q => exact ⟨fun z => (h1 _ z).elim h.1 fun e => (by have := h.2.1; rw [e, hp] at this; exact nomatch this), h.2⟩
theorem RelG.ext (g : Ext H H') {r : Rt} (h : RelG K S H r) : RelG K S H' r := h.mono (C := fun _ => False) g.gro (fun _ z => z) fun _ z => z.elim
end
structure Frm where
  K : KWd
  /-- what the callers hold: not ours to touch but for io -/
  S : Addr → Prop
  /-- the parameters that are written -/
  io : List Nat
  T : List Addr
  H0 : Hp
  A0 : Nat → Addr
  /-- values that stay while a loop runs -/
  G : List Rt := []
  /-- the def answers with a new list or dict -/
  new : Bool := false
abbrev Rho := List (Option (Bool × D))
def Ow (A : Nat → Addr) (ρ : Rho) (a : Addr) : Prop := ∃ (i : Nat) (d : D), ρ[i]? = some (some (true, d)) ∧ Pt A i d a
def Av (F : Frm) (B : List Addr) (A : Nat → Addr) (ρ : Rho) (a : Addr) : Prop := F.S a ∨ a ∈ B ∨ Ow A ρ a
structure Ev (F : Frm) (B : List Addr) (A : Nat → Addr) (σ : L2.St) (H : Hp) (ρ : Rho) : Prop where
  len : ρ.length = σ.length
  plain : ∀ (i : Nat) (d : D), ρ[i]? = some (some (false, d)) → ∃ v, σ[i]? = some (some v) ∧ RelD F.K (Av F B A ρ) H v d
  own : ∀ (i : Nat) (d : D), ρ[i]? = some (some (true, d)) → σ[i]? = some (some (.ref (A i))) ∧ Own F.K (Av F B A ρ) H A i d
  inj : ∀ (i j : Nat) (d e : D) (a : Addr), ρ[i]? = some (some (true, d)) → ρ[j]? = some (some (true, e)) → Pt A i d a → Pt A j e a → i = j
  nS : ∀ (i : Nat) (d : D) (a : Addr), ρ[i]? = some (some (true, d)) → Pt A i d a → i ∉ F.io → ¬ F.S a ∧ a ∉ B ∧ F.H0 a = none
  ios : ∀ i ∈ F.io, ∃ d : D, ρ[i]? = some (some (true, d)) ∧ A i = F.A0 i ∧ (isBg d = true → A (i + 1000) = F.A0 (i + 1000)) ∧ ∀ a, Pt A i d a → F.S a ∧ a ∉ B
  few : ρ.length ≤ 1000
  occ : ∀ a, F.S a → H a ≠ none
  occB : ∀ b ∈ B, H b ≠ none ∧ F.H0 b = none ∧ ¬ F.S b
  chg : Gro (fun a => ∃ i ∈ F.io, a = F.A0 i ∨ a = F.A0 (i + 1000)) F.H0 H
  tabs : ∀ P ∈ F.T, TabN H P
  roots : ∀ r ∈ F.G, RelG F.K (Av F B A ρ) H r
section
variable {F : Frm} {B : List Addr} {A : Nat → Addr} {σ : L2.St} {H H' : Hp} {ρ ρ' : Rho}
theorem Ev.occA (E : Ev F B A σ H ρ) : ∀ a, Av F B A ρ a → H a ≠ none := fun a h => by
  rcases h with h | h | ⟨i, d, e, h⟩
  · exact E.occ a h
  · exact (E.occB a h).1
  · exact (E.own i d e).2.some h
theorem Ev.fresh (E : Ev F B A σ H ρ) {p : Addr} (h : H p = none) : ¬ Av F B A ρ p := fun z => E.occA p z h
theorem Ev.ext (E : Ev F B A σ H ρ) (g : Ext H H') : Ev F B A σ H' ρ where
  len := E.len
  plain := fun i d e => let ⟨v, h1, h2⟩ := E.plain i d e; ⟨v, h1, h2.ext g⟩
  own := fun i d e => let ⟨h1, h2⟩ := E.own i d e; ⟨h1, h2.mono (C := fun _ => False) g.gro (fun _ z => z) (fun _ z => z.elim) fun _ _ => id⟩
  inj := E.inj
  nS := E.nS
  ios := E.ios
  few := E.few
  occ := fun a h => by
    cases q : H a with
    | none => exact absurd q (E.occ a h)
    | some o => rw [g a o q]; simp
  occB := fun b hb => ⟨by
    cases q : H b with
    | none => exact absurd q (E.occB b hb).1
    | some o => rw [g b o q]; simp, (E.occB b hb).2⟩
  chg := E.chg.trans g.gro
  tabs := fun P hP => (g.gro (C := fun _ => False)).tabs P (E.tabs P hP)
  roots := fun r hr => (E.roots r hr).ext g
theorem Ev.hide {p : Addr} (E : Ev F B A σ H ρ) (hp : H p = none) : ∀ {H' : Hp}, Ext H H' → H' p ≠ none → Ev F (p :: B) A σ H' ρ := by
  intro H' g hn
  have h0 : F.H0 p = none := by
    cases q : F.H0 p with
    | none => rfl
    | some o => exact absurd hp (E.chg.live p (by rw [q]; simp))
  have hS : ∀ a, Av F (p :: B) A ρ a → Av F B A ρ a ∨ a = p := fun a h => by
    rcases h with h | h | h
    · exact .inl (.inl h)
    · rcases List.mem_cons.mp h with h | h
      · exact .inr h
      · exact .inl (.inr (.inl h))
    · exact .inl (.inr (.inr h))
  have E' := E.ext g
  exact ⟨E.len, fun i d e => let ⟨v, h1, h2⟩ := E.plain i d e; ⟨v, h1, (h2.away hp hS).ext g⟩, fun i d e => let ⟨h1, h2⟩ := E.own i d e; ⟨h1, (h2.away hp hS).mono (C := fun _ => False) g.gro (fun _ z => z) (fun _ z => z.elim) fun _ _ => id⟩, E.inj,
    fun i d a e hpt hi => let ⟨h1, h2, h3⟩ := E.nS i d a e hpt hi; ⟨h1, fun z => by
      rcases List.mem_cons.mp z with z | z
      · exact (E.own i d e).2.some hpt (z ▸ hp)
      · exact h2 z, h3⟩, fun i hi => let ⟨d, h4, h1, h2, h3⟩ := E.ios i hi; ⟨d, h4, h1, h2, fun a hpt => ⟨(h3 a hpt).1, fun z => by
      rcases List.mem_cons.mp z with z | z
      · exact (E.own i d h4).2.some hpt (z ▸ hp)
      · exact (h3 a hpt).2 z⟩⟩, E.few, E'.occ, fun b hb => by
      rcases List.mem_cons.mp hb with hb | hb
      · rw [hb]
        exact ⟨hn, h0, fun z => E.occ p z hp⟩
      · exact E'.occB b hb, E'.chg, E'.tabs, fun r hr => ((E.roots r hr).away hp hS).ext g⟩
theorem Ev.unhide {p : Addr} (E : Ev F (p :: B) A σ H ρ) : Ev F B A σ H ρ := by
  have hS : ∀ a, Av F B A ρ a → Av F (p :: B) A ρ a := fun a h => by
    rcases h with h | h | h
    · exact .inl h
    · exact .inr (.inl (List.mem_cons_of_mem _ h))
    · exact .inr (.inr h)
  exact ⟨E.len, fun i d e => let ⟨v, h1, h2⟩ := E.plain i d e; ⟨v, h1, h2.mono (C := fun _ => False) (Gro.refl _) hS fun _ z => z.elim⟩, fun i d e => let ⟨h1, h2⟩ := E.own i d e; ⟨h1, h2.mono (C := fun _ => False) (Gro.refl _) hS (fun _ z => z.elim) fun _ _ => id⟩, E.inj,
    fun i d a e hpt hi => let ⟨h1, h2, h3⟩ := E.nS i d a e hpt hi; ⟨h1, fun z => h2 (List.mem_cons_of_mem _ z), h3⟩, fun i hi => let ⟨d, h1, h2, h3, h4⟩ := E.ios i hi; ⟨d, h1, h2, h3, fun a hpt => ⟨(h4 a hpt).1, fun z => (h4 a hpt).2 (List.mem_cons_of_mem _ z)⟩⟩, E.few, E.occ, fun b hb => E.occB b (List.mem_cons_of_mem _ hb), E.chg, E.tabs, fun r hr => (E.roots r hr).mono (C := fun _ => False) (Gro.refl _) hS fun _ z => z.elim⟩
theorem Ev.quiet (E : Ev F B A σ H ρ) (g : Gro (fun _ => False) H H') : Ev F B A σ H' ρ where
  len := E.len
  plain := fun i d e => let ⟨v, h1, h2⟩ := E.plain i d e; ⟨v, h1, h2.mono g (fun _ z => z) (fun _ z => z.elim)⟩
  own := fun i d e => let ⟨h1, h2⟩ := E.own i d e; ⟨h1, h2.mono g (fun _ z => z) (fun _ z => z.elim) fun _ _ => id⟩
  inj := E.inj
  nS := E.nS
  ios := E.ios
  few := E.few
  occ := fun a h => g.live a (E.occ a h)
  occB := fun b hb => ⟨g.live b (E.occB b hb).1, (E.occB b hb).2⟩
  chg := E.chg.trans (g.mono fun _ z => z.elim)
  tabs := fun P hP => g.tabs P (E.tabs P hP)
  roots := fun r hr => (E.roots r hr).mono g (fun _ z => z) (fun _ z => z.elim)
structure Lv (eff : List Nat) (ρ ρ' : Rho) : Prop where
  keep : ∀ i : Nat, i ∉ eff → ρ'[i]? = ρ[i]?
  own : ∀ (i : Nat) (d : D), ρ'[i]? = some (some (true, d)) → ∃ e : D, ρ[i]? = some (some (true, e)) ∧ (isBg d = true → isBg e = true)
theorem Lv.refl (ρ : Rho) : Lv [] ρ ρ := ⟨fun _ _ => rfl, fun i d e => ⟨d, e, id⟩⟩
theorem Lv.trans {e1 e2 : List Nat} {ρ1 ρ2 : Rho} (a : Lv e1 ρ ρ1) (b : Lv e2 ρ1 ρ2) : Lv (e1 ++ e2) ρ ρ2 :=
  ⟨fun i h => (b.keep i fun z => h (List.mem_append_right _ z)).trans (a.keep i fun z => h (List.mem_append_left _ z)), fun i d e => let ⟨d1, e1, k1⟩ := b.own i d e; let ⟨d2, e2, k2⟩ := a.own i d1 e1; ⟨d2, e2, fun z => k2 (k1 z)⟩⟩
theorem Lv.ow {eff : List Nat} (h : Lv eff ρ ρ') {a : Addr} (z : Ow A ρ' a) : Ow A ρ a := by
  obtain ⟨i, d, e, p⟩ := z
  obtain ⟨d', e', k⟩ := h.own i d e
  exact ⟨i, d', e', p.imp k⟩
theorem Lv.av {eff : List Nat} (h : Lv eff ρ ρ') {a : Addr} (z : Av F B A ρ' a) : Av F B A ρ a := by
  rcases z with z | z | z
  · exact .inl z
  · exact .inr (.inl z)
  · exact .inr (.inr (h.ow z))
def Val (F : Frm) (B : List Addr) (A : Nat → Addr) (ρ : Rho) (H : Hp) (dep : List Nat) (v : V) (d : D) : Prop :=
  RelD F.K (Av F B A ρ) H v d ∨ ∃ i ∈ dep, ρ[i]? = some (some (true, d)) ∧ v = .ref (A i) ∧ isBg d = false
theorem Val.rr {dep : List Nat} {v : V} {d : D} (E : Ev F B A σ H ρ) (h : Val F B A ρ H dep v d) : RR F.K (Av F B A ρ) H v d := by
  rcases h with h | ⟨i, _, e, rfl, hb⟩
  · exact .inl h
  · exact .inr ⟨_, rfl, (E.own i d e).2.relO hb⟩
theorem Val.later {dep eff : List Nat} {v : V} {d : D} (h : Val F B A ρ H dep v d) (g : Gro (Ow A ρ) H H') (l : Lv eff ρ ρ') (hd : ∀ i ∈ dep, i ∉ eff) : Val F B A ρ' H' dep v d := by
  rcases h with h | ⟨i, hi, e, rfl, hb⟩
  · exact .inl (h.mono g (fun a z => l.av z) fun a z => .inr (.inr z))
  · exact .inr ⟨i, hi, by rw [l.keep i (hd i hi)]; exact e, rfl, hb⟩
theorem Val.plain {v : V} {d : D} (h : Val F B A ρ H [] v d) : RelD F.K (Av F B A ρ) H v d := by
  rcases h with h | ⟨i, hi, _⟩
  · exact h
  · exact absurd hi (by simp)
structure Post (F : Frm) (B : List Addr) (A : Nat → Addr) (σ : L2.St) (H : Hp) (ρ : Rho) (eff : List Nat) (H' : Hp) (ρ' : Rho) : Prop where
  env : Ev F B A σ H' ρ'
  gro : Gro (Ow A ρ) H H'
  lv : Lv eff ρ ρ'
theorem Post.refl (E : Ev F B A σ H ρ) : Post F B A σ H ρ [] H ρ := ⟨E, Gro.refl _, Lv.refl _⟩
theorem Post.trans {e1 e2 : List Nat} {H1 H2 : Hp} {ρ1 ρ2 : Rho} (a : Post F B A σ H ρ e1 H1 ρ1) (b : Post F B A σ H1 ρ1 e2 H2 ρ2) : Post F B A σ H ρ (e1 ++ e2) H2 ρ2 :=
  ⟨b.env, a.gro.trans (b.gro.mono fun x z => a.lv.ow z), a.lv.trans b.lv⟩
theorem Post.ext {eff : List Nat} {H1 H2 : Hp} {ρ1 : Rho} (a : Post F B A σ H ρ eff H1 ρ1) (g : Ext H1 H2) : Post F B A σ H ρ eff H2 ρ1 := ⟨a.env.ext g, a.gro.trans g.gro, a.lv⟩
end
abbrev M (α : Type) := Rho → Option (α × Rho)
def rd (F : Frm) (m : M D) (dep eff : List Nat) : TE := fun σ H Q => ∃ B A ρ d ρ', Ev F B A σ H ρ ∧ m ρ = some (d, ρ') ∧ ∀ v H', Post F B A σ H ρ eff H' ρ' → Val F B A ρ' H' dep v d → Q v H'
def rdT (F : Frm) (m : M Bool) (eff : List Nat) : TT := fun σ H Q => ∃ B A ρ b ρ', Ev F B A σ H ρ ∧ m ρ = some (b, ρ') ∧ ∀ H', Post F B A σ H ρ eff H' ρ' → Q b H'
def rdA (F : Frm) (m : M (List D)) (dep eff : List Nat) : TA := fun σ H Q => ∃ B A ρ ds ρ', Ev F B A σ H ρ ∧ m ρ = some (ds, ρ') ∧ ∀ vs H', Post F B A σ H ρ eff H' ρ' → Paired (Val F B A ρ' H' dep) vs ds → Q vs H'
section
variable {X : Cx}
theorem PE.mono {e : Expr} {t t' : TE} (h : PE X e t) (hm : ∀ σ H Q, t' σ H Q → t σ H Q) : PE X e t' := ⟨fun pins s σ H Q I q => h.run pins s σ H Q I (hm σ H Q q)⟩
theorem PT.mono {e : Expr} {t t' : TT} (h : PT X e t) (hm : ∀ σ H Q, t' σ H Q → t σ H Q) : PT X e t' := ⟨fun pins s σ H Q I q => h.run pins s σ H Q I (hm σ H Q q)⟩
theorem PA.mono {es : List Expr} {t t' : TA} (h : PA X es t) (hm : ∀ σ H Q, t' σ H Q → t σ H Q) : PA X es t' := ⟨fun p pins s σ H Q I q => h.run p pins s σ H Q I (hm σ H Q q)⟩
theorem PS.mono {st : Stmt} {t t' : TS} (h : PS X st t) (hm : ∀ Dn σ H, t' Dn σ H → t Dn σ H) : PS X st t' := ⟨fun pins s σ H Dn I q => h.run pins s σ H Dn I (hm Dn σ H q)⟩
end
end PD
set_option Elab.async false
set_option linter.all false
set_option maxRecDepth 100000
set_option maxHeartbeats 2000000
namespace PD
open PySem PySem.Spec PyProof.Rows L2 GxR
section
variable {X : Cx} {F : Frm} {pos p : Pos}
def mVar (i : Nat) : M D := fun ρ => match ρ[i]? with
  | some (some (true, d)) => if isBg d = true then none else some (d, ρ)
  | some (some (false, d)) => some (d, ρ)
  | _ => none
def mFrz (i : Nat) : M D := fun ρ => match ρ[i]? with
  | some (some (true, d)) => if isBg d = true then none else some (d, ρ.set i (some (false, d)))
  | some (some (false, d)) => some (d, ρ)
  | _ => none
def mC (d : D) : M D := fun ρ => some (d, ρ)
theorem mVar_some {i : Nat} {ρ ρ' : Rho} {d : D} (h : mVar i ρ = some (d, ρ')) : ρ' = ρ ∧ ∃ b, ρ[i]? = some (some (b, d)) ∧ (b = true → isBg d = false) := by
  unfold mVar at h
  split at h
  · rename_i d' e
    split at h
    · cases h
    · rename_i hb
      cases h
      exact ⟨rfl, true, e, fun _ => by simpa using hb⟩
  · rename_i d' e
    cases h
    exact ⟨rfl, false, e, fun z => by cases z⟩
  · cases h
theorem x_var {i : Nat} {x : Str} (hN : X.N[i]? = some x) (hv : Vis X.env.scope x) (hd : (x == ("__debug__" : Str)) = false := by decide) (hcd : (x == ("__classdict__" : Str)) = false := by decide) : PE X (.Name x pos) (rd F (mVar i) [i] []) := by
  refine PE.mono (pe_var hN hv hd hcd) fun σ H Q ⟨B, A, ρ, d, ρ', E, hm, k⟩ => ?_
  obtain ⟨rfl, b, e, hb⟩ := mVar_some hm
  cases b with
  | true =>
    obtain ⟨h1, h2⟩ := E.own i d e
    exact ⟨_, h1, k _ H (Post.refl E) (.inr ⟨i, by simp, e, rfl, hb rfl⟩)⟩
  | false =>
    obtain ⟨v, h1, h2⟩ := E.plain i d e
    exact ⟨_, h1, k _ H (Post.refl E) (.inl h2)⟩
theorem get_set {ρ : Rho} {i j : Nat} {z : Option (Bool × D)} : (ρ.set i z)[j]? = if i = j then (if i < ρ.length then some z else none) else ρ[j]? := by
  rw [List.getElem?_set]
theorem Gro.fresh' {C : Addr → Prop} {H H1 H2 : Hp} {b : Addr} (g : Gro C H H1) (hb : H b = none) (w : Gro (fun a => a = b) H1 H2) : Gro C H H2 :=
  ⟨fun a o e n t => w.keep a o (g.keep a o e n t) (fun z => by rw [z, hb] at e; cases e) t, fun P t => w.tabs P (g.tabs P t), fun a n => w.live a (g.live a n)⟩
theorem Ev.frzG {B : List Addr} {A : Nat → Addr} {σ : L2.St} {H H' : Hp} {ρ : Rho} {i : Nat} {d : D} (E : Ev F B A σ H ρ) (hi : i ∉ F.io) (e : ρ[i]? = some (some (true, d))) (hb : isBg d = false) (g : Gro (fun a => a = A i) H H')
    (hr : ∀ S', (∀ a, S' a → Av F B A ρ a) → ¬ S' (A i) → RelD F.K S' H' (.ref (A i)) d) :
    Post F B A σ H ρ [i] H' (ρ.set i (some (false, d))) ∧ RelD F.K (Av F B A (ρ.set i (some (false, d)))) H' (.ref (A i)) d := by
  have own' : ∀ (j : Nat) (e' : D), (ρ.set i (some (false, d)))[j]? = some (some (true, e')) → i ≠ j ∧ ρ[j]? = some (some (true, e')) := fun j e' h => by
    by_cases hij : i = j
    · subst hij
      rw [get_set, if_pos rfl] at h
      split at h <;> cases h
    · rw [get_set, if_neg hij] at h
      exact ⟨hij, h⟩
  have L : Lv [i] ρ (ρ.set i (some (false, d))) := ⟨fun j hj => by rw [get_set, if_neg (fun z => hj (by rw [z]; simp))], fun j e' h => ⟨e', (own' j e' h).2, id⟩⟩
  have hn : ¬ Av F B A (ρ.set i (some (false, d))) (A i) := fun z => by
    obtain ⟨n1, n2, n3⟩ := E.nS i d _ e .self hi
    rcases z with z | z | ⟨j, e', h, z⟩
    · exact n1 z
    · exact n2 z
    · obtain ⟨h1, h2⟩ := own' j e' h
      exact h1 (E.inj i j d e' _ e h2 .self z)
  have hC : ∀ a, a = A i → Av F B A ρ a := fun a z => .inr (.inr ⟨i, d, e, .inl z⟩)
  have hR := hr (Av F B A (ρ.set i (some (false, d)))) (fun a z => L.av z) hn
  refine ⟨⟨⟨?_, fun j e' h => ?_, fun j e' h => ?_, fun j k e1 e2 a h1 h2 => E.inj j k e1 e2 a (own' j e1 h1).2 (own' k e2 h2).2, fun j e' a h => E.nS j e' a (own' j e' h).2, fun j hj => ?_, by rw [List.length_set]; exact E.few, fun a h => g.live a (E.occ a h), fun b h => ⟨g.live b (E.occB b h).1, (E.occB b h).2⟩, E.chg.fresh' (E.nS i d _ e .self hi).2.2 g, fun P h => g.tabs P (E.tabs P h), fun r hr => (E.roots r hr).mono g (fun a z => L.av z) hC⟩, g.mono fun a z => ⟨i, d, e, .inl z⟩, L⟩, hR⟩
  · rw [List.length_set]; exact E.len
  · by_cases hij : i = j
    · subst hij
      rw [get_set, if_pos rfl] at h
      split at h
      · cases h
        exact ⟨_, (E.own i d e).1, hR⟩
      · cases h
    · rw [get_set, if_neg hij] at h
      obtain ⟨v, h1, h2⟩ := E.plain j e' h
      exact ⟨v, h1, h2.mono g (fun a z => L.av z) hC⟩
  · obtain ⟨h1, h2⟩ := own' j e' h
    obtain ⟨g1, g2⟩ := E.own j e' h2
    exact ⟨g1, g2.mono g (fun a z => L.av z) hC fun a p z => h1 (E.inj i j d e' _ e h2 .self (z ▸ p))⟩
  · obtain ⟨d', a4, a1⟩ := E.ios j hj
    refine ⟨d', ?_, a1⟩
    rw [get_set, if_neg (fun z => hi (by rw [z]; exact hj))]
    exact a4
theorem Ev.frz {B : List Addr} {A : Nat → Addr} {σ : L2.St} {H : Hp} {ρ : Rho} {i : Nat} {d : D} (E : Ev F B A σ H ρ) (hi : i ∉ F.io) (e : ρ[i]? = some (some (true, d))) (hb : isBg d = false) (hd : isDc d = false) :
    Post F B A σ H ρ [i] H (ρ.set i (some (false, d))) ∧ RelD F.K (Av F B A (ρ.set i (some (false, d)))) H (.ref (A i)) d :=
  E.frzG hi e hb (Gro.refl _) fun S' h1 h2 => ((E.own i d e).2.relO hb).relD hd h1 h2
theorem Ev.frzD {B : List Addr} {A : Nat → Addr} {σ : L2.St} {H : Hp} {ρ : Rho} {i : Nat} {d : D} {u : HO} {od : Obj} (E : Ev F B A σ H ρ) (hi : i ∉ F.io) (e : ρ[i]? = some (some (true, d))) (hb : isBg d = false) (hd : isDc d = true) (hu : H (A i) = some u) (ht : ∀ ps, u ≠ .tbl ps) :
    Post F B A σ H ρ [i] (upd H (A i) (.frz od u)) (ρ.set i (some (false, d))) ∧ RelD F.K (Av F B A (ρ.set i (some (false, d)))) (upd H (A i) (.frz od u)) (.ref (A i)) d :=
  E.frzG hi e hb (gro_frz hu ht (((E.own i d e).2.relO hb).noCode hu)) fun S' h1 h2 => ((E.own i d e).2.relO hb).relF hd hu (.inr (.inr ⟨i, d, e, .inl rfl⟩)) h1 h2
def tFz (t : TE) : TE := fun σ H Q => t σ H fun v H1 => Q v H1 ∨ ∃ a u, H1 a = some u ∧ Mut (some u) ∧ ∀ od, Q v (upd H1 a (.frz od u))
theorem pe_fz {e : Expr} {t : TE} (h : PE X e t) : PE X e (tFz t) := by
  refine ⟨fun pins s σ H Q I hw => ?_⟩
  refine thn (h.run pins s σ H _ I hw) fun v s1 ⟨x, H1, I1, r, q⟩ => ?_
  rcases q with q | ⟨a, u, hu, mu, q⟩
  · exact ⟨x, H1, I1, r, q⟩
  · obtain ⟨od, I2⟩ := I1.lock hu mu
    exact ⟨x, _, I2, r, q od⟩
theorem x_frz {i : Nat} {x : Str} (hN : X.N[i]? = some x) (hv : Vis X.env.scope x) (hi : i ∉ F.io) (hd : (x == ("__debug__" : Str)) = false := by decide) (hcd : (x == ("__classdict__" : Str)) = false := by decide) : PE X (.Name x pos) (rd F (mFrz i) [] [i]) := by
  refine PE.mono (pe_fz (pe_var hN hv hd hcd)) fun σ H Q ⟨B, A, ρ, d, ρ', E, hm, k⟩ => ?_
  unfold mFrz at hm
  split at hm
  · rename_i d' e
    split at hm
    · cases hm
    · rename_i hb
      cases hm
      have hb : isBg d = false := by simpa using hb
      cases hc : isDc d with
      | false =>
        obtain ⟨P, r⟩ := E.frz hi e hb hc
        exact ⟨_, (E.own i d e).1, .inl (k _ H P (.inl r))⟩
      | true =>
        obtain ⟨u, hu, mu, ht⟩ := ((E.own i d e).2.relO hb).mut
        refine ⟨_, (E.own i d e).1, .inr ⟨A i, u, hu, mu, fun od => ?_⟩⟩
        obtain ⟨P, r⟩ := E.frzD (od := od) hi e hb hc hu ht
        exact k _ _ P (.inl r)
  · rename_i d' e
    cases hm
    obtain ⟨v, h1, h2⟩ := E.plain i d e
    exact ⟨v, h1, .inl (k _ H ⟨E, Gro.refl _, ⟨fun _ _ => rfl, fun i d e => ⟨d, e, id⟩⟩⟩ (.inl h2))⟩
  · cases hm
theorem x_c {e : Expr} {v : V} {d : D} (h : PE X e (tC v)) (hr : ∀ S H, RelD F.K S H v d) : PE X e (rd F (mC d) [] []) := by
  refine PE.mono h fun σ H Q ⟨B, A, ρ, d', ρ', E, hm, k⟩ => ?_
  cases hm
  exact k v H (Post.refl E) (.inl (hr _ _))
theorem x_int {i : Int} {j} : PE X (.Constant (.int i) j pos) (rd F (mC (.int i)) [] []) := x_c pe_int fun _ _ => .int i
theorem x_bl {i : Bool} {j} : PE X (.Constant (.bool i) j pos) (rd F (mC (.bool i)) [] []) := x_c pe_bl fun _ _ => .bl i
theorem x_str {i : Str} {j} : PE X (.Constant (.str i) j pos) (rd F (mC (.str i)) [] []) := x_c pe_str fun _ _ => .str i
def rop (K : KWd) (g : D → D → Option D) : R2 := fun x y H Q => ∃ S d1 d2 d, RR K S H x d1 ∧ RR K S H y d2 ∧ g d1 d2 = some d ∧ (∀ a, S a → H a ≠ none) ∧ ∀ v H', Ext H H' → RelD K S H' v d → Q v H'
def mBin (g : D → D → Option D) (m1 m2 : M D) : M D := fun ρ => match m1 ρ with
  | some (d1, ρ1) => (match m2 ρ1 with
    | some (d2, ρ2) => (match g d1 d2 with
      | some d => some (d, ρ2)
      | none => none)
    | none => none)
  | none => none
theorem mBin_some {g : D → D → Option D} {m1 m2 : M D} {ρ ρ2 : Rho} {d : D} (h : mBin g m1 m2 ρ = some (d, ρ2)) : ∃ d1 ρ1 d2, m1 ρ = some (d1, ρ1) ∧ m2 ρ1 = some (d2, ρ2) ∧ g d1 d2 = some d := by
  unfold mBin at h
  split at h
  · rename_i d1 ρ1 e1
    split at h
    · rename_i d2 ρ2' e2
      split at h
      · rename_i d' e3
        cases h
        exact ⟨d1, ρ1, d2, e1, e2, e3⟩
      · cases h
    · cases h
  · cases h
theorem rd_bin {g : D → D → Option D} {m1 m2 : M D} {dep1 eff1 dep2 eff2 : List Nat} (hd : ∀ i ∈ dep1, i ∉ eff2) {σ : L2.St} {H : Hp} {Q : VK} (h : rd F (mBin g m1 m2) [] (eff1 ++ eff2) σ H Q) : tOp (rop F.K g) (rd F m1 dep1 eff1) (rd F m2 dep2 eff2) σ H Q := by
  obtain ⟨B, A, ρ, d, ρ2, E, hm, k⟩ := h
  obtain ⟨d1, ρ1, d2, e1, e2, e3⟩ := mBin_some hm
  refine ⟨B, A, ρ, d1, ρ1, E, e1, fun v1 H1 P1 r1 => ⟨B, A, ρ1, d2, ρ2, P1.env, e2, fun v2 H2 P2 r2 => ?_⟩⟩
  refine ⟨Av F B A ρ2, d1, d2, d, (r1.later P2.gro P2.lv hd).rr P2.env, r2.rr P2.env, e3, P2.env.occA, fun v H' g r => ?_⟩
  exact k v H' ((P1.trans P2).ext g) (.inl r)
theorem x_bin {op : Operator} {a b : Expr} {g : D → D → Option D} {m1 m2 : M D} {dep1 eff1 dep2 eff2 : List Nat} (ho : OpR X (binaryOp op) (rop F.K g)) (ha : PE X a (rd F m1 dep1 eff1)) (hb : PE X b (rd F m2 dep2 eff2)) (hd : ∀ i ∈ dep1, i ∉ eff2 := by decide) :
    PE X (.BinOp a op b pos) (rd F (mBin g m1 m2) [] (eff1 ++ eff2)) := PE.mono (pe_op ho ha hb) fun σ H Q h => rd_bin hd h
theorem x_cmp {op : CmpOp} {a b : Expr} {g : D → D → Option D} {m1 m2 : M D} {dep1 eff1 dep2 eff2 : List Nat} (ho : OpR X (compareOp op) (rop F.K g)) (ha : PE X a (rd F m1 dep1 eff1)) (hb : PE X b (rd F m2 dep2 eff2)) (hd : ∀ i ∈ dep1, i ∉ eff2 := by decide)
    (hm : behindInMarks op b = false := by first | exact nobehind _ (by decide) (by decide) | rfl) :
    PE X (.Compare a [op] [b] pos) (rd F (mBin g m1 m2) [] (eff1 ++ eff2)) := PE.mono (pe_cmpR ho ha hb hm) fun σ H Q h => rd_bin hd h
theorem x_ix {a b : Expr} {g : D → D → Option D} {m1 m2 : M D} {dep1 eff1 dep2 eff2 : List Nat} (ho : IxR X (rop F.K g)) (ha : PE X a (rd F m1 dep1 eff1)) (hb : PE X b (rd F m2 dep2 eff2)) (hs : PlainIx b) (hd : ∀ i ∈ dep1, i ∉ eff2 := by decide) :
    PE X (.Subscript a b pos) (rd F (mBin g m1 m2) [] (eff1 ++ eff2)) := PE.mono (pe_ix ho ha hb hs) fun σ H Q h => rd_bin hd h
def mNil : M (List D) := fun ρ => some ([], ρ)
def mCons (m : M D) (ms : M (List D)) : M (List D) := fun ρ => match m ρ with
  | some (d, ρ1) => (match ms ρ1 with
    | some (ds, ρ2) => some (d :: ds, ρ2)
    | none => none)
  | none => none
theorem mCons_some {m : M D} {ms : M (List D)} {ρ ρ2 : Rho} {ds : List D} (h : mCons m ms ρ = some (ds, ρ2)) : ∃ d ρ1 ds', m ρ = some (d, ρ1) ∧ ms ρ1 = some (ds', ρ2) ∧ ds = d :: ds' := by
  unfold mCons at h
  split at h
  · rename_i d ρ1 e1
    split at h
    · rename_i ds' ρ2' e2
      cases h
      exact ⟨d, ρ1, ds', e1, e2, rfl⟩
    · cases h
  · cases h
theorem xa_nil : PA X [] (rdA F mNil [] []) := by
  refine PA.mono pa_nil fun σ H Q ⟨B, A, ρ, ds, ρ', E, hm, k⟩ => ?_
  cases hm
  exact k [] H (Post.refl E) .nil
theorem xa_cons {e : Expr} {es : List Expr} {m : M D} {ms : M (List D)} {dep1 eff1 dep2 eff2 : List Nat} (ha : PE X e (rd F m dep1 eff1)) (hr : PA X es (rdA F ms dep2 eff2)) (hd : ∀ i ∈ dep1, i ∉ eff2 := by decide)
    (hs : starEach (e :: es) X.env = (false, eval e X.env) :: starEach es X.env := by rfl) : PA X (e :: es) (rdA F (mCons m ms) (dep1 ++ dep2) (eff1 ++ eff2)) := by
  refine PA.mono (pa_cons ha hr hs) fun σ H Q ⟨B, A, ρ, ds, ρ2, E, hm, k⟩ => ?_
  obtain ⟨d, ρ1, ds', e1, e2, rfl⟩ := mCons_some hm
  refine ⟨B, A, ρ, d, ρ1, E, e1, fun v1 H1 P1 r1 => ⟨B, A, ρ1, ds', ρ2, P1.env, e2, fun vs H2 P2 r2 => ?_⟩⟩
  refine k _ H2 (P1.trans P2) (.cons ?_ ?_)
  · exact (r1.later P2.gro P2.lv hd).imp id fun ⟨i, hi, r⟩ => ⟨i, List.mem_append_left _ hi, r⟩
  · exact Paired.mapP r2 fun a b r => r.imp id fun ⟨i, hi, r⟩ => ⟨i, List.mem_append_right _ hi, r⟩
theorem Val.rrs {B : List Addr} {A : Nat → Addr} {σ : L2.St} {H : Hp} {ρ : Rho} {dep : List Nat} {vs : List V} {ds : List D} (E : Ev F B A σ H ρ) (h : Paired (Val F B A ρ H dep) vs ds) : Paired (RR F.K (Av F B A ρ) H) vs ds := Paired.mapP h fun _ _ r => r.rr E
theorem Val.plains {B : List Addr} {A : Nat → Addr} {H : Hp} {ρ : Rho} : ∀ {vs : List V} {ds : List D}, Paired (Val F B A ρ H []) vs ds → RelDs F.K (Av F B A ρ) H vs ds
  | _, _, .nil => .nil
  | _, _, .cons r t => .cons r.plain (Val.plains t)
def rcall (K : KWd) (g : List D → Option D) : List V → Hp → VK → Prop := fun xs H Q => ∃ S ds d, Paired (RR K S H) xs ds ∧ g ds = some d ∧ (∀ a, S a → H a ≠ none) ∧ ∀ v H', Ext H H' → RelD K S H' v d → Q v H'
def mApp (g : List D → Option D) (m : M (List D)) : M D := fun ρ => match m ρ with
  | some (ds, ρ1) => (match g ds with
    | some d => some (d, ρ1)
    | none => none)
  | none => none
theorem mApp_some {g : List D → Option D} {m : M (List D)} {ρ ρ1 : Rho} {d : D} (h : mApp g m ρ = some (d, ρ1)) : ∃ ds, m ρ = some (ds, ρ1) ∧ g ds = some d := by
  unfold mApp at h
  split at h
  · rename_i ds ρ1' e1
    split at h
    · rename_i d' e2
      cases h
      exact ⟨ds, e1, e2⟩
    · cases h
  · cases h
theorem rd_app {g : List D → Option D} {m : M (List D)} {dep eff : List Nat} {σ : L2.St} {H : Hp} {Q : VK} (h : rd F (mApp g m) [] eff σ H Q) : rdA F m dep eff σ H fun vs H1 => rcall F.K g vs H1 Q := by
  obtain ⟨B, A, ρ, d, ρ1, E, hm, k⟩ := h
  obtain ⟨ds, e1, e2⟩ := mApp_some hm
  exact ⟨B, A, ρ, ds, ρ1, E, e1, fun vs H1 P1 r1 => ⟨Av F B A ρ1, ds, d, Val.rrs P1.env r1, e2, P1.env.occA, fun v H' g r => k v H' (P1.ext g) (.inl r)⟩⟩
theorem x_callB {x : Str} {id : String} {e : Expr} {es : List Expr} {g : List D → Option D} {m : M (List D)} {dep eff : List Nat} (hc : CallR X (.builtin id) (rcall F.K g)) (hg : Gl X x) (hm : X.mg x = none) (hv : bootBuiltins x = some (.builtin id)) (ha : PA X (e :: es) (rdA F m dep eff)) (hn : x ≠ "__name__" := by decide) (hdb : (x == ("__debug__" : Str)) = false := by decide)
    (he : starEach (e :: es) X.env = (false, eval e X.env) :: starEach es X.env := by rfl) (hpl : (backTo pos (starEach es X.env)).any (·.1) = false := by rfl) : PE X (.Call (.Name x p) (e :: es) [] pos) (rd F (mApp g m) [] eff) :=
  PE.mono (pe_callB hc hg hm hv ha hn hdb he hpl) fun σ H Q h => rd_app h
theorem x_callTy {x : Str} {T : String} {e : Expr} {es : List Expr} {g : List D → Option D} {m : M (List D)} {dep eff : List Nat} (hc : CallR X (.type T) (rcall F.K g)) (hg : Gl X x) (hm : X.mg x = none) (hv : bootBuiltins x = some (.type T)) (ha : PA X (e :: es) (rdA F m dep eff)) (hn : x ≠ "__name__" := by decide) (hdb : (x == ("__debug__" : Str)) = false := by decide)
    (he : starEach (e :: es) X.env = (false, eval e X.env) :: starEach es X.env := by rfl) (hpl : (backTo pos (starEach es X.env)).any (·.1) = false := by rfl) : PE X (.Call (.Name x p) (e :: es) [] pos) (rd F (mApp g m) [] eff) :=
  PE.mono (pe_callTy hc hg hm hv ha hn hdb he hpl) fun σ H Q h => rd_app h
def gTupD : List D → Option D := fun ds => if ds.length ≤ sizeLine then some (.tuple ds) else none
def gLstD : List D → Option D := fun ds => if ds.length ≤ sizeLine then some (.list ds) else none
theorem x_tup {es : List Expr} {kk : Nat} {m : M (List D)} {eff : List Nat} (h : PE X (.Tuple es kk pos) (FrzT.tTupF (rdA F m [] eff))) : PE X (.Tuple es kk pos) (rd F (mApp gTupD m) [] eff) := by
  refine PE.mono h fun σ H Q ⟨B, A, ρ, d, ρ1, E, hm, k⟩ => ?_
  obtain ⟨ds, e1, e2⟩ := mApp_some hm
  unfold gTupD at e2
  split at e2
  · rename_i hl
    cases e2
    refine ⟨B, A, ρ, ds, ρ1, E, e1, fun vs H1 P1 r1 => ?_⟩
    have r := Val.plains r1
    refine ⟨by rw [r.length]; exact hl, fun q o hq hc hd => ?_⟩
    exact k _ _ (P1.ext (Ext.new hq)) (.inl (.tup (P1.env.fresh hq) ⟨o, upd_same, hc, hd⟩ (r.ext (Ext.new hq))))
  · cases e2
theorem x_lst {es : List Expr} {m : M (List D)} {eff : List Nat} (h : PE X (.List es pos) (tLst (rdA F m [] eff))) : PE X (.List es pos) (rd F (mApp gLstD m) [] eff) := by
  refine PE.mono h fun σ H Q ⟨B, A, ρ, d, ρ1, E, hm, k⟩ => ?_
  obtain ⟨ds, e1, e2⟩ := mApp_some hm
  unfold gLstD at e2
  split at e2
  · rename_i hl
    cases e2
    refine ⟨B, A, ρ, ds, ρ1, E, e1, fun vs H1 P1 r1 => ?_⟩
    have r := Val.plains r1
    refine ⟨by rw [r.length]; exact hl, fun q hq => ?_⟩
    exact k _ _ (P1.ext (Ext.new hq)) (.inl (.lst (P1.env.fresh hq) (.inl upd_same) (r.ext (Ext.new hq))))
  · cases e2
def mB (m : M D) : M Bool := fun ρ => match m ρ with
  | some (.bool b, ρ1) => some (b, ρ1)
  | _ => none
theorem mB_some {m : M D} {ρ ρ1 : Rho} {b : Bool} (h : mB m ρ = some (b, ρ1)) : m ρ = some (.bool b, ρ1) := by
  unfold mB at h
  split at h
  · rename_i b' ρ1' e
    cases h
    exact e
  · cases h
theorem rd_tB {m : M D} {dep eff : List Nat} {σ : L2.St} {H : Hp} {Q : Bool → Hp → Prop} (h : rdT F (mB m) eff σ H Q) : tB (rd F m dep eff) σ H Q := by
  obtain ⟨B, A, ρ, b, ρ1, E, hm, k⟩ := h
  refine ⟨B, A, ρ, _, ρ1, E, mB_some hm, fun v H1 P1 r1 => ⟨b, (r1.rr P1.env).bool, k H1 P1⟩⟩
theorem t_val {e : Expr} {m : M D} {dep eff : List Nat} (h : PE X e (rd F m dep eff)) (he : ∀ whole, isTrue e X.env whole = (do let v ← whole; standAt e.pos; holding [v] (truthy v)) := by intro _; rfl) : PT X e (rdT F (mB m) eff) := PT.mono (pt_val h he) fun _ _ _ h => rd_tB h
def mAndT (m1 m2 : M Bool) : M Bool := fun ρ => match m1 ρ with
  | some (true, ρ1) => m2 ρ1
  | some (false, ρ1) => some (false, ρ1)
  | none => none
def mOrT (m1 m2 : M Bool) : M Bool := fun ρ => match m1 ρ with
  | some (false, ρ1) => m2 ρ1
  | some (true, ρ1) => some (true, ρ1)
  | none => none
def mNotT (m : M Bool) : M Bool := fun ρ => match m ρ with
  | some (b, ρ1) => some (!b, ρ1)
  | none => none
theorem Post.more {B : List Addr} {A : Nat → Addr} {σ : L2.St} {H H' : Hp} {ρ ρ' : Rho} {e1 e2 : List Nat} (P : Post F B A σ H ρ e1 H' ρ') (h : ∀ i ∈ e1, i ∈ e2) : Post F B A σ H ρ e2 H' ρ' := ⟨P.env, P.gro, fun i hi => P.lv.keep i fun z => hi (h i z), P.lv.own⟩
theorem t_and1 {a : Expr} {m : M Bool} {eff : List Nat} (ha : PT X a (rdT F m eff)) : PW X (.BoolOp .And [a] pos) (rdT F m eff) := pw_and1 ha
theorem t_or1 {a : Expr} {m : M Bool} {eff : List Nat} (ha : PT X a (rdT F m eff)) : PW X (.BoolOp .Or [a] pos) (rdT F m eff) := pw_or1 ha
theorem PW.mono {e : Expr} {t t' : TT} (h : PW X e t) (hm : ∀ σ H Q, t' σ H Q → t σ H Q) : PW X e t' := ⟨fun w pins s σ H Q I q => h.run w pins s σ H Q I (hm σ H Q q)⟩
theorem t_and {a b : Expr} {rest : List Expr} {m1 m2 : M Bool} {eff1 eff2 : List Nat} (ha : PT X a (rdT F m1 eff1)) (hb : PW X (.BoolOp .And (b :: rest) pos) (rdT F m2 eff2)) : PW X (.BoolOp .And (a :: b :: rest) pos) (rdT F (mAndT m1 m2) (eff1 ++ eff2)) := by
  refine PW.mono (pw_and ha hb) fun σ H Q ⟨B, A, ρ, d, ρ2, E, hm, k⟩ => ?_
  unfold mAndT at hm
  split at hm
  · rename_i ρ1 e1
    refine ⟨B, A, ρ, true, ρ1, E, e1, fun H1 P1 => ?_⟩
    simp only [if_true, Bool.false_eq_true, if_false]
    exact ⟨B, A, ρ1, d, ρ2, P1.env, hm, fun H2 P2 => k H2 (P1.trans P2)⟩
  · rename_i ρ1 e1
    cases hm
    refine ⟨B, A, ρ, false, _, E, e1, fun H1 P1 => ?_⟩
    simp only [if_true, Bool.false_eq_true, if_false]
    exact k H1 (P1.more fun i hi => List.mem_append_left _ hi)
  · cases hm
theorem t_or {a b : Expr} {rest : List Expr} {m1 m2 : M Bool} {eff1 eff2 : List Nat} (ha : PT X a (rdT F m1 eff1)) (hb : PW X (.BoolOp .Or (b :: rest) pos) (rdT F m2 eff2)) : PW X (.BoolOp .Or (a :: b :: rest) pos) (rdT F (mOrT m1 m2) (eff1 ++ eff2)) := by
  refine PW.mono (pw_or ha hb) fun σ H Q ⟨B, A, ρ, d, ρ2, E, hm, k⟩ => ?_
  unfold mOrT at hm
  split at hm
  · rename_i ρ1 e1
    refine ⟨B, A, ρ, false, ρ1, E, e1, fun H1 P1 => ?_⟩
    simp only [if_true, Bool.false_eq_true, if_false]
    exact ⟨B, A, ρ1, d, ρ2, P1.env, hm, fun H2 P2 => k H2 (P1.trans P2)⟩
  · rename_i ρ1 e1
    cases hm
    refine ⟨B, A, ρ, true, _, E, e1, fun H1 P1 => ?_⟩
    simp only [if_true, Bool.false_eq_true, if_false]
    exact k H1 (P1.more fun i hi => List.mem_append_left _ hi)
  · cases hm
theorem t_not {a : Expr} {m : M Bool} {eff : List Nat} (ha : PT X a (rdT F m eff)) : PT X (.UnaryOp .Not a pos) (rdT F (mNotT m) eff) := by
  refine PT.mono (pt_not ha) fun σ H Q ⟨B, A, ρ, d, ρ2, E, hm, k⟩ => ?_
  unfold mNotT at hm
  split at hm
  · rename_i b ρ1 e1
    cases hm
    exact ⟨B, A, ρ, b, _, E, e1, fun H1 P1 => k H1 P1⟩
  · cases hm
def mAndV (m1 m2 : M D) : M D := fun ρ => match m1 ρ with
  | some (.bool true, ρ1) => m2 ρ1
  | some (.bool false, ρ1) => some (.bool false, ρ1)
  | _ => none
def mOrV (m1 m2 : M D) : M D := fun ρ => match m1 ρ with
  | some (.bool false, ρ1) => m2 ρ1
  | some (.bool true, ρ1) => some (.bool true, ρ1)
  | _ => none
def mNotV (m : M D) : M D := fun ρ => match m ρ with
  | some (.bool b, ρ1) => some (.bool (!b), ρ1)
  | _ => none
theorem x_one {op} {a : Expr} {m : M D} {dep eff : List Nat} (h : PE X a (rd F m dep eff)) : PE X (.BoolOp op [a] pos) (rd F m dep eff) := pe_one h
theorem x_and {a b : Expr} {rest : List Expr} {m1 m2 : M D} {dep1 dep2 eff1 eff2 : List Nat} (ha : PE X a (rd F m1 dep1 eff1)) (hb : PE X (.BoolOp .And (b :: rest) pos) (rd F m2 dep2 eff2)) : PE X (.BoolOp .And (a :: b :: rest) pos) (rd F (mAndV m1 m2) dep2 (eff1 ++ eff2)) := by
  refine PE.mono (pe_and ha hb) fun σ H Q ⟨B, A, ρ, d, ρ2, E, hm, k⟩ => ?_
  unfold mAndV at hm
  split at hm
  · rename_i ρ1 e1
    refine ⟨B, A, ρ, .bool true, ρ1, E, e1, fun v H1 P1 r1 => ⟨true, (r1.rr P1.env).bool, ?_⟩⟩
    simp only [if_true, Bool.false_eq_true, if_false]
    exact ⟨B, A, ρ1, d, ρ2, P1.env, hm, fun v H2 P2 r2 => k v H2 (P1.trans P2) r2⟩
  · rename_i ρ1 e1
    cases hm
    refine ⟨B, A, ρ, .bool false, _, E, e1, fun v H1 P1 r1 => ⟨false, (r1.rr P1.env).bool, ?_⟩⟩
    simp only [if_true, Bool.false_eq_true, if_false]
    exact k _ H1 (P1.more fun i hi => List.mem_append_left _ hi) (.inl (.bl false))
  · cases hm
def mIf (c : M Bool) (m1 m2 : M D) : M D := fun ρ => match c ρ with
  | some (true, ρ1) => m1 ρ1
  | some (false, ρ1) => m2 ρ1
  | none => none
theorem x_if {c a b : Expr} {mc : M Bool} {m1 m2 : M D} {dep1 dep2 eff0 eff1 eff2 : List Nat} (hc : PT X c (rdT F mc eff0)) (ha : PE X a (rd F m1 dep1 eff1)) (hb : PE X b (rd F m2 dep2 eff2)) : PE X (.IfExp c a b pos) (rd F (mIf mc m1 m2) (dep1 ++ dep2) (eff0 ++ (eff1 ++ eff2))) := by
  refine PE.mono (pe_ifExp hc ha hb) fun σ H Q ⟨B, A, ρ, d, ρ2, E, hm, k⟩ => ?_
  unfold mIf at hm
  split at hm
  · rename_i ρ1 e1
    refine ⟨B, A, ρ, true, ρ1, E, e1, fun H1 P1 => ?_⟩
    simp only [if_true, Bool.false_eq_true, if_false]
    exact ⟨B, A, ρ1, d, ρ2, P1.env, hm, fun v H2 P2 r2 => k v H2 (P1.trans (P2.more fun i hi => List.mem_append_left _ hi)) (r2.imp id fun ⟨i, hi, r⟩ => ⟨i, List.mem_append_left _ hi, r⟩)⟩
  · rename_i ρ1 e1
    refine ⟨B, A, ρ, false, ρ1, E, e1, fun H1 P1 => ?_⟩
    simp only [if_true, Bool.false_eq_true, if_false]
    exact ⟨B, A, ρ1, d, ρ2, P1.env, hm, fun v H2 P2 r2 => k v H2 (P1.trans (P2.more fun i hi => List.mem_append_right _ hi)) (r2.imp id fun ⟨i, hi, r⟩ => ⟨i, List.mem_append_right _ hi, r⟩)⟩
  · cases hm
end
end PD
set_option Elab.async false
set_option linter.all false
set_option maxRecDepth 100000
set_option maxHeartbeats 2000000
namespace PD
open PySem PySem.Spec PyProof.Rows L2 GxR
mutual
def noD : D → Bool
  | .dict _ => false
  | .list l => noDs l
  | .tuple l => noDs l
  | _ => true
def noDs : List D → Bool
  | [] => true
  | d :: ds => noD d && noDs ds
end
section
variable {K : KWd} {S : Addr → Prop} {H : Hp}
mutual
theorem RelD.dp : ∀ (d : D) (v : V), RelD K S H v d → noD d = true → Dp K H v d
  | .none, _, h, _ => by cases h; exact .non
  | .bool b, _, h, _ => by cases h; exact .bl b
  | .int b, _, h, _ => by cases h; exact .int b
  | .str b, _, h, _ => by cases h; exact .str b
  | .list ds, _, h, n => by
    cases h with
    | lst _ s r => exact .lst (.inl s) (RelDs.dp ds _ r n)
    | lstK s r => exact .lst (.inr s) (RelDs.dp ds _ r n)
  | .tuple ds, _, h, n => by
    cases h with
    | tup _ s r => exact .tup (.inl s.rd) (RelDs.dp ds _ r n)
    | tupK s r => exact .tup (.inr s.sq) (RelDs.dp ds _ r n)
  | .dict ds, _, h, n => by cases n
theorem RelDs.dp : ∀ (d : List D) (v : List V), RelDs K S H v d → noDs d = true → DpAll K H v d
  | [], _, h, _ => by cases h; exact .nil
  | d :: ds, _, h, n => by
    cases h with
    | cons r t =>
      have n : (noD d && noDs ds) = true := n
      rw [Bool.and_eq_true] at n
      exact .cons (RelD.dp d _ r n.1) (RelDs.dp ds _ t n.2)
end
theorem RR.dp {v : V} {d : D} (r : RR K S H v d) (n : noD d = true) : Dp K H v d := by
  rcases r with r | ⟨a, e, r⟩
  · exact RelD.dp _ _ r n
  · cases d with
    | list ds => obtain ⟨xs, h, r⟩ := r; rw [e]; exact .lst (SqL.of h) (RelDs.dp _ _ r n)
    | dict ds => cases n
    | _ => exact r.elim
end
def okE (d : D) : Bool := noD d && SeqAt.shaped d
def gEq (a b : D) : Option D := if (okE a && okE b) = true then some (.bool (PyData.eqv a b)) else none
def gNe (a b : D) : Option D := if (okE a && okE b) = true then some (.bool (!PyData.eqv a b)) else none
def gAdd : D → D → Option D
  | .int a, .int b => some (.int (a + b))
  | .str a, .str b => if a.length + b.length ≤ sizeLine then some (.str (a ++ b)) else none
  | .list a, .list b => if a.length + b.length ≤ sizeLine then some (.list (a ++ b)) else none
  | .tuple a, .tuple b => if a.length + b.length ≤ sizeLine then some (.tuple (a ++ b)) else none
  | _, _ => none
def gSub : D → D → Option D
  | .int a, .int b => some (.int (a - b))
  | _, _ => none
instance : Decidable (CMul i j) := inferInstanceAs (Decidable (_ ∨ _))
instance : Decidable (CDivN i j) := inferInstanceAs (Decidable (_ ∧ _))
def gMul : D → D → Option D
  | .int a, .int b => if CMul a b then some (.int (a * b)) else none
  | .str a, .int n => if n = 0 then some (.str Str.empty) else if n = 1 then some (.str a) else none
  | _, _ => none
def gDiv : D → D → Option D
  | .int a, .int b => if CDivN a b then some (.int (a.fdiv b)) else none
  | _, _ => none
def gMod : D → D → Option D
  | .int a, .int b => if b ≠ 0 then some (.int (a.fmod b)) else none
  | _, _ => none
def gLt : D → D → Option D
  | .int a, .int b => some (.bool (decide (a < b)))
  | .str a, .str b => some (.bool (decide (a.cps.toList < b.cps.toList)))
  | _, _ => none
def gGt : D → D → Option D
  | .int a, .int b => some (.bool (decide (b < a)))
  | .str a, .str b => some (.bool (decide (b.cps.toList < a.cps.toList)))
  | _, _ => none
def leI (ns ms : List Int) : Bool := Ob.lexAt (fun j => decide (ns.getD j 0 = ms.getD j 0)) (fun j => decide (ns.getD j 0 ≤ ms.getD j 0)) (decide (ns.length ≤ ms.length)) 0 (min ns.length ms.length)
def gLe : D → D → Option D
  | .int a, .int b => some (.bool (decide (a ≤ b)))
  | .str a, .str b => some (.bool (!decide (b.cps.toList < a.cps.toList)))
  | .tuple a, .tuple b => match allInts a, allInts b with
    | some ns, some ms => some (.bool (leI ns ms))
    | _, _ => none
  | _, _ => none
where allInts : List D → Option (List Int)
  | [] => some []
  | .int i :: r => (allInts r).map (i :: ·)
  | _ => none
def gGe : D → D → Option D
  | .int a, .int b => some (.bool (decide (b ≤ a)))
  | .str a, .str b => some (.bool (!decide (a.cps.toList < b.cps.toList)))
  | _, _ => none
def isN : D → Bool
  | .none => true
  | _ => false
def gIs : D → D → Option D
  | d, .none => some (.bool (isN d))
  | .bool a, .bool b => some (.bool (decide (a = b)))
  | _, .bool _ => some (.bool false)
  | _, _ => none
def gIsNot : D → D → Option D
  | d, .none => some (.bool (!isN d))
  | .bool a, .bool b => some (.bool (!decide (a = b)))
  | _, .bool _ => some (.bool true)
  | _, _ => none
theorem RR.tupleD {K : KWd} {S : Addr → Prop} {H : Hp} {v : V} {ds : List D} (r : RR K S H v (.tuple ds)) : RelD K S H v (.tuple ds) := by
  rcases r with r | ⟨a, e, r⟩
  · exact r
  · exact r.elim
section
variable {X : Cx} {K : KWd}
theorem op_catL : OpR X (binaryOp .Add) (fun x y H Q => ∃ a b xs ys, x = .ref a ∧ y = .ref b ∧ SqL X.K H a xs ∧ SqL X.K H b ys ∧ xs.length + ys.length ≤ sizeLine ∧ ∀ p, H p = none → Q (.ref p) (upd H p (.lst (xs ++ ys)))) := by
  intro pins s σ H x y v u Q I rx ry ⟨a, b, xs, ys, e1, e2, h1, h2, hz, q⟩
  subst e1 e2
  cases rx
  cases ry
  obtain ⟨its, w1, ⟨⟨cls, dd, data, sl⟩, n, ho, hc, hdn, hd⟩, z1⟩ := I.list h1
  obtain ⟨its2, w2, ⟨⟨cls2, dd2, data2, sl2⟩, n2, ho2, hc2, hdn2, hd2⟩, z2⟩ := I.list h2
  simp only at hc hd hc2 hd2
  subst hc hd hc2 hd2
  have l1 := w1.length
  have l2 := w2.length
  have ea : its.toArray ++ its2.toArray = (its ++ its2).toArray := by simp
  refine concat_meets ⟨_, ho, rfl⟩ ⟨_, ho2, rfl⟩ noFill_list_add seq_list_add PySem.F.slot_list_add PySem.F.entry_list_add (PySem.F.args_list_add_2 _ _) (list_addW a b its.toArray its2.toArray n n2 dd dd2 sl sl2 (by rw [List.size_toArray, List.size_toArray]; omega)) ⟨ho, ho2, ?_⟩
  rw [ea]
  exact ⟨.ref _, _, I.lnew (t' := s.toks) (w1.append w2) (by rw [List.length_append]; omega), rfl, q _ I.fresh⟩
theorem o_add (hK : X.kw = K := by rfl) : OpR X (binaryOp .Add) (rop K gAdd) := by
  subst hK
  intro pins s σ H x y v u Q I rx ry ⟨S, d1, d2, d, r1, r2, e, occ, k⟩
  unfold gAdd at e
  split at e
  · cases e
    exact op_add pins s σ H x y v u Q I rx ry ⟨_, _, r1.int, r2.int, k _ H (Ext.refl H) (.int _)⟩
  · split at e
    · rename_i hl
      cases e
      exact op_add_str pins s σ H x y v u Q I rx ry ⟨_, _, r1.str, r2.str, hl, k _ H (Ext.refl H) (.str _)⟩
    · cases e
  · split at e
    · rename_i hl
      cases e
      obtain ⟨a, xs, rfl, h1, q1⟩ := r1.list
      obtain ⟨b, ys, rfl, h2, q2⟩ := r2.list
      refine op_catL pins s σ H _ _ v u Q I rx ry ⟨a, b, xs, ys, rfl, rfl, h1, h2, by rw [q1.length, q2.length]; exact hl, fun p hp => ?_⟩
      exact k _ _ (Ext.new hp) (.lst (fun z => occ _ z hp) (.inl upd_same) ((q1.append q2).ext (Ext.new hp)))
    · cases e
  · split at e
    · rename_i hl
      cases e
      have R1 := r1.tupleD
      have R2 := r2.tupleD
      obtain ⟨a, xs, rfl, h1, q1⟩ := r1.tuple
      obtain ⟨b, ys, rfl, h2, q2⟩ := r2.tuple
      refine FrzT.op_catAF pins s σ H _ _ v u Q I rx ry ⟨a, b, xs, ys, rfl, rfl, h1, h2, by rw [q1.length, q2.length]; exact hl, fun hx => ?_, fun _ hy => ?_, fun _ _ p o hp hc hd => ?_⟩
      · subst hx
        cases q1
        exact k _ H (Ext.refl H) R2
      · subst hy
        cases q2
        rw [List.append_nil] at k
        exact k _ H (Ext.refl H) R1
      · exact k _ _ (Ext.new hp) (.tup (fun z => occ _ z hp) ⟨o, upd_same, hc, hd⟩ ((q1.append q2).ext (Ext.new hp)))
    · cases e
  · cases e
theorem o_sub : OpR X (binaryOp .Sub) (rop K gSub) := by
  intro pins s σ H x y v u Q I rx ry ⟨S, d1, d2, d, r1, r2, e, occ, k⟩
  unfold gSub at e
  split at e
  · cases e
    exact op_sub pins s σ H x y v u Q I rx ry ⟨_, _, r1.int, r2.int, k _ H (Ext.refl H) (.int _)⟩
  · cases e
theorem o_mul : OpR X (binaryOp .Mult) (rop K gMul) := by
  intro pins s σ H x y v u Q I rx ry ⟨S, d1, d2, d, r1, r2, e, occ, k⟩
  unfold gMul at e
  split at e
  · split at e
    · rename_i hc
      cases e
      exact op_mul pins s σ H x y v u Q I rx ry ⟨_, _, r1.int, r2.int, hc, k _ H (Ext.refl H) (.int _)⟩
    · cases e
  · rename_i a n
    have ex := r1.str
    have ey := r2.int
    subst ex ey
    obtain ⟨t, rfl⟩ := (show ∃ t, v = Value.str a t from rx)
    obtain ⟨t', rfl⟩ := (show ∃ t, u = Value.int n t from ry)
    split at e
    · rename_i hn
      cases e
      subst hn
      exact PySem.P.mul_str_none (by decide) (by decide) ⟨.str Str.empty, H, I.tok _, ⟨_, rfl⟩, k _ H (Ext.refl H) (.str _)⟩
    · split at e
      · rename_i hn
        cases e
        subst hn
        exact PySem.P.mul_str (by decide) (fun _ h => absurd h (by simp)) (fun _ h => absurd h (by simp)) (by
          rw [if_neg (by decide), if_pos (by simp)]
          exact ⟨.str a, H, I, ⟨_, rfl⟩, k _ H (Ext.refl H) (.str _)⟩)
      · cases e
  · cases e
theorem o_div : OpR X (binaryOp .FloorDiv) (rop K gDiv) := by
  intro pins s σ H x y v u Q I rx ry ⟨S, d1, d2, d, r1, r2, e, occ, k⟩
  unfold gDiv at e
  split at e
  · split at e
    · rename_i hc
      cases e
      exact op_fdivN pins s σ H x y v u Q I rx ry ⟨_, _, r1.int, r2.int, hc, k _ H (Ext.refl H) (.int _)⟩
    · cases e
  · cases e
theorem o_mod : OpR X (binaryOp .Mod) (rop K gMod) := by
  intro pins s σ H x y v u Q I rx ry ⟨S, d1, d2, d, r1, r2, e, occ, k⟩
  unfold gMod at e
  split at e
  · split at e
    · rename_i hc
      cases e
      exact op_modN pins s σ H x y v u Q I rx ry ⟨_, _, r1.int, r2.int, hc, k _ H (Ext.refl H) (.int _)⟩
    · cases e
  · cases e
theorem o_lt : OpR X (compareOp .Lt) (rop K gLt) := by
  intro pins s σ H x y v u Q I rx ry ⟨S, d1, d2, d, r1, r2, e, occ, k⟩
  unfold gLt at e
  split at e
  · cases e
    exact op_lt pins s σ H x y v u Q I rx ry ⟨_, _, r1.int, r2.int, k _ H (Ext.refl H) (.bl _)⟩
  · cases e
    exact op_lt_str pins s σ H x y v u Q I rx ry ⟨_, _, r1.str, r2.str, k _ H (Ext.refl H) (.bl _)⟩
  · cases e
theorem o_gt : OpR X (compareOp .Gt) (rop K gGt) := by
  intro pins s σ H x y v u Q I rx ry ⟨S, d1, d2, d, r1, r2, e, occ, k⟩
  unfold gGt at e
  split at e
  · cases e
    exact op_gt pins s σ H x y v u Q I rx ry ⟨_, _, r1.int, r2.int, k _ H (Ext.refl H) (.bl _)⟩
  · cases e
    exact op_gt_str pins s σ H x y v u Q I rx ry ⟨_, _, r1.str, r2.str, k _ H (Ext.refl H) (.bl _)⟩
  · cases e
theorem o_ge : OpR X (compareOp .GtE) (rop K gGe) := by
  intro pins s σ H x y v u Q I rx ry ⟨S, d1, d2, d, r1, r2, e, occ, k⟩
  unfold gGe at e
  split at e
  · cases e
    exact op_ge pins s σ H x y v u Q I rx ry ⟨_, _, r1.int, r2.int, k _ H (Ext.refl H) (.bl _)⟩
  · cases e
    exact op_ge_str pins s σ H x y v u Q I rx ry ⟨_, _, r1.str, r2.str, k _ H (Ext.refl H) (.bl _)⟩
  · cases e
theorem allInts_rel {S : Addr → Prop} {H : Hp} : ∀ {ds : List D} {ns : List Int} {xs : List V}, gLe.allInts ds = some ns → RelDs K S H xs ds → xs = ns.map V.int
  | [], _, _, e, r => by
    cases r
    cases e
    rfl
  | d :: ds, ns, _, e, r => by
    cases r with
    | cons r t =>
      cases d <;> unfold gLe.allInts at e <;> try cases e
      rename_i i
      cases q : gLe.allInts ds with
      | none => rw [q] at e; cases e
      | some ms =>
        rw [q] at e
        cases e
        cases r
        rw [allInts_rel q t]
        rfl
theorem o_eq (hu : X.A.units + 64 < cLine) (hK : X.kw = K := by rfl) : OpR X (compareOp .Eq) (rop K gEq) := by
  subst hK
  intro pins s σ H x y v u Q I rx ry ⟨S, d1, d2, d, r1, r2, e, occ, k⟩
  unfold gEq at e
  split at e
  · rename_i h
    cases e
    unfold okE at h
    simp only [Bool.and_eq_true] at h
    obtain ⟨⟨h1, h2⟩, h3, h4⟩ := h
    exact op_eqD hu pins s σ H x y v u Q I rx ry ⟨d1, d2, r1.dp h1, r2.dp h3, h2, h4, k _ H (Ext.refl H) (.bl _)⟩
  · cases e
theorem o_ne (hu : X.A.units + 64 < cLine) (hK : X.kw = K := by rfl) : OpR X (compareOp .NotEq) (rop K gNe) := by
  subst hK
  intro pins s σ H x y v u Q I rx ry ⟨S, d1, d2, d, r1, r2, e, occ, k⟩
  unfold gNe at e
  split at e
  · rename_i h
    cases e
    unfold okE at h
    simp only [Bool.and_eq_true] at h
    obtain ⟨⟨h1, h2⟩, h3, h4⟩ := h
    exact op_neD hu pins s σ H x y v u Q I rx ry ⟨d1, d2, r1.dp h1, r2.dp h3, h2, h4, k _ H (Ext.refl H) (.bl _)⟩
  · cases e
theorem RR.non_iff {S : Addr → Prop} {H : Hp} {v : V} {d : D} (r : RR K S H v d) : decide (v = .non) = isN d := by
  rcases r with r | ⟨a, e, r⟩
  · cases r <;> rfl
  · subst e
    cases d <;> first | rfl | exact r.elim
theorem RR.notBl {K : KWd} {S : Addr → Prop} {H : Hp} {v : V} {d : D} (h : ∀ a, d = .bool a → False) (r : RR K S H v d) : ∀ b, v ≠ .bl b := fun b e => by
  subst e
  rcases r with r | ⟨a, e, _⟩
  · cases r
    exact h _ rfl
  · cases e
theorem op_isNB : OpR X (compareOp .Is) (fun x y H Q => (∃ b, y = .bl b) ∧ (∀ b, x ≠ .bl b) ∧ (x = .non ∨ (∃ i, x = .int i) ∨ (∃ z, x = .str z) ∨ ∃ a, x = .ref a) ∧ Q (.bl false) H) := by
  intro pins s σ H x y v u Q I rx ry ⟨⟨b, hy⟩, hn, hx, q⟩
  subst hy
  cases ry
  show wpAny _ _ ((isSame v (.bool b)) >>= fun z => pure (Value.bool z)) _ _ s
  rcases hx with rfl | ⟨i, rfl⟩ | ⟨z, rfl⟩ | ⟨a, rfl⟩
  · cases rx; exact wpAny_bind (wpAny_pure (wpAny_pure (fin_bl I q rfl)))
  · obtain ⟨t, rfl⟩ := rx; exact wpAny_bind (wpAny_pure (wpAny_pure (fin_bl I q rfl)))
  · obtain ⟨t, rfl⟩ := rx; exact wpAny_bind (wpAny_pure (wpAny_pure (fin_bl I q rfl)))
  · cases rx; exact wpAny_bind (wpAny_pure (wpAny_pure (fin_bl I q rfl)))
theorem RR.kinds {K : KWd} {S : Addr → Prop} {H : Hp} {v : V} {d : D} (r : RR K S H v d) (hn : ∀ b, v ≠ .bl b) : v = .non ∨ (∃ i, v = .int i) ∨ (∃ z, v = .str z) ∨ ∃ a, v = .ref a := by
  rcases r with r | ⟨a, e, _⟩
  · cases r with
    | non => exact .inl rfl
    | bl b => exact absurd rfl (hn b)
    | int i => exact .inr (.inl ⟨i, rfl⟩)
    | str z => exact .inr (.inr (.inl ⟨z, rfl⟩))
    | _ => exact .inr (.inr (.inr ⟨_, rfl⟩))
  · exact .inr (.inr (.inr ⟨a, e⟩))
theorem o_is : OpR X (compareOp .Is) (rop K gIs) := by
  intro pins s σ H x y v u Q I rx ry ⟨S, d1, d2, d, r1, r2, e, occ, k⟩
  unfold gIs at e
  split at e
  · cases e
    refine op_isN pins s σ H x y v u Q I rx ry ⟨r2.none, ?_⟩
    rw [r1.non_iff]
    exact k _ H (Ext.refl H) (.bl _)
  · cases e
    exact op_isBl pins s σ H x y v u Q I rx ry ⟨_, _, r1.bool, r2.bool, k _ H (Ext.refl H) (.bl _)⟩
  · rename_i hn
    cases e
    have h1 := r1.notBl fun a e => hn a e
    exact op_isNB pins s σ H x y v u Q I rx ry ⟨⟨_, r2.bool⟩, h1, r1.kinds h1, k _ H (Ext.refl H) (.bl _)⟩
  · cases e
end
end PD
set_option Elab.async false
set_option linter.all false
set_option maxRecDepth 100000
set_option maxHeartbeats 2000000
namespace PD
open PySem PySem.Spec PyProof.Rows L2 GxR
def keyD : D → Option Key
  | .int i => some (.inl i)
  | .str x => some (.inr x)
  | _ => none
theorem keyD_some {d : D} {k : Key} (h : keyD d = some k) : d = kD k := by
  cases d <;> first | (cases h; rfl) | cases h
theorem keyD_kD (k : Key) : keyD (kD k) = some k := by cases k <;> rfl
def dget : List (D × D) → Key → Option D
  | [], _ => none
  | (kd, d) :: r, k => if keyD kd = some k then some d else dget r k
section
variable {K : KWd} {S : Addr → Prop} {H : Hp}
theorem RR.key {v : V} {k : Key} (r : RR K S H v (kD k)) : v = kV k := by
  cases k with
  | inl i => exact r.int
  | inr x => exact r.str
end
section
variable {X : Cx} {K : KWd} {S : Addr → Prop} {H : Hp}
theorem RelKs.valV : ∀ {kvs : List (Key × V)} {ds : List (D × D)} (k : Key), RelKs K S H kvs ds → (L2.valV kvs k = none ∧ dget ds k = none) ∨ ∃ v d, L2.valV kvs k = some v ∧ dget ds k = some d ∧ RelD K S H v d
  | _, _, _, .nil => .inl ⟨by first | rfl | simp [L2.valV], rfl⟩
  | _, _, k, .cons (k := k0) (v := v) (kvs := kvs) (d := d) (ds := ds) r t => by
    by_cases e : k0 = k
    · subst e
      exact .inr ⟨v, d, by first | (unfold L2.valV; simp) | simp [L2.valV], by unfold dget; rw [keyD_kD, if_pos rfl], r⟩
    · have e1 : L2.valV ((k0, v) :: kvs) k = L2.valV kvs k := by
        first
          | (unfold L2.valV; simp [List.find?, e])
          | simp [L2.valV, e]
      have e2 : dget ((kD k0, d) :: ds) k = dget ds k := by
        unfold dget
        rw [keyD_kD, if_neg (fun z => e (Option.some.inj z))]
        cases ds <;> rfl
      rw [e1, e2]
      exact RelKs.valV k t
theorem RelTs.dget : ∀ {xs : List (List Key × Addr × Value)} {ds : List (D × D)} (k : Key), RelTs K S H xs ds → PD.dget ds k = none
  | _, _, _, .nil => rfl
  | _, _, k, .cons _ _ _ t => (if_neg (fun z : none = some k => nomatch z)).trans (RelTs.dget k t)
theorem RelMk.dget {xs : List (List Key × Addr × Value)} {ds : List (D × D)} {k : Key} (r : RelMk K S H xs ds) : PD.dget ds k = none := by
  cases r with
  | mk r => exact (if_neg (fun z : none = some k => nomatch z)).trans (RelTs.dget k r)
end
def gInB (a : D) : D → Option Bool
  | .list ds => if (okE a && okE (.list ds)) = true then some (ds.any fun z => PyData.eqv z a) else none
  | .tuple ds => if (okE a && okE (.tuple ds)) = true then some (ds.any fun z => PyData.eqv z a) else none
  | .dict kvs => if isT kvs then none else (keyD a).map fun k => (dget kvs k).isSome
  | .str t => match a with
    | .str x => some (!(Builtin.Str.occurrences t x 0 t.length 1).isEmpty)
    | _ => none
  | _ => none
def gIn (a b : D) : Option D := (gInB a b).map fun c => .bool c
def gIx : D → D → Option D
  | .list ds, .int i => atI ds i
  | .tuple ds, .int i => atI ds i
  | .str z, .int i => if z.length ≤ sizeLine then (atI z.cps.toList i).map fun c => .str ⟨#[c]⟩ else none
  | .dict kvs, a => (keyD a).bind fun k => dget kvs k
  | _, _ => none
section
variable {X : Cx} {K : KWd} {S : Addr → Prop} {H : Hp}
theorem RelDs.atI {xs : List V} {ds : List D} {i : Int} {d : D} (r : RelDs K S H xs ds) (h : L2.atI ds i = some d) : ∃ v, L2.atI xs i = some v ∧ RelD K S H v d := by
  unfold L2.atI at h ⊢
  rw [← r.length] at h
  cases e : ixN xs.length i with
  | none => rw [e] at h; cases h
  | some j =>
    rw [e] at h
    exact r.get h
theorem ix_dict (hu : X.A.units + 1 < cLine) : IxR X (fun x y H Q => ∃ a v, x = .ref a ∧ DGet H a y (some v) ∧ Q v H) := by
  intro value slice pins s σ H x y v u Q I rx ry ⟨a, v0, e, g, q⟩ hs
  subst e
  cases rx
  have hT := dict_typeIs I g
  unfold subscriptTail
  refine wpAny_bind ?_
  rw [getitemInPython_of_ne hT.not_modules]
  refine wpAny_bind (wpAny_specialOf hT PySem.F.slot_dict_getitem.lookup ?_)
  have fin : wpAny (model X.prog X.w) X.A (subscripted slice false (.ref a) u) (fun r s₃ => wpAny (model X.prog X.w) X.A (letTemporaryGo value (.ref a) r >>= fun _ => pure r) (EP X pins σ Q) X.xe s₃) X.xe s := by
    rw [hs]
    exact wpAny_operating (d_getItem hu I g ry fun w' s3 I3 rw' => wpAny_bind (wpAny_letTemporaryGo (wpAny_pure ⟨v0, H, I3, rw', q⟩)))
  first
    | exact wpAny_pure (wpAny_bind fin)
    | exact wpAny_bind (wpAny_pure (wpAny_bind fin))
    | exact wpAny_bind fin
theorem op_dict_in (hu : X.A.units + 1 < cLine) : OpR X (compareOp .In) (fun x y H Q => ∃ a o, y = .ref a ∧ DGet H a x o ∧ Q (.bl o.isSome) H) := by
  intro pins s σ H x y v u Q I rx ry ⟨a, o, e, g, q⟩
  subst e
  cases ry
  exact d_in hu I g rx fun s3 I3 => ⟨.bl o.isSome, H, I3, rfl, q⟩
theorem op_in_tupD (hu : X.A.units + 65 < cLine) : OpR X (compareOp .In) (fun x y H Q => ∃ d ds, Dp X.kw H x d ∧ Dp X.kw H y (.tuple ds) ∧ SeqAt.shaped d = true ∧ SeqAt.shaped (.tuple ds) = true ∧ Q (.bl (ds.any fun z => PyData.eqv z d)) H) := by
  intro pins s σ H x y v u Q I rx ry ⟨d, ds, hd, he, sd, se, q⟩
  obtain ⟨as, r1⟩ := Dp.reads I d x v hd rx
  obtain ⟨bs, r2⟩ := Dp.reads I (.tuple ds) y u he ry
  exact SeqAt.in_tuple_reads r2 r1 (SeqAt.canLay_of_shaped se) (SeqAt.canLay_of_shaped sd) (room_in_shaped sd hu) ⟨.bl _, H, I, rfl, q⟩
theorem okE_both {a b : D} (h : (okE a && okE b) = true) : (noD a = true ∧ SeqAt.shaped a = true) ∧ noD b = true ∧ SeqAt.shaped b = true := by
  unfold okE at h
  simp only [Bool.and_eq_true] at h
  exact h
theorem RelKs.dget {a : Addr} {kvs : List (Key × V)} {ds : List (D × D)} {x : V} {k : Key} (hR : Rd H a (.dK kvs)) (r : RelKs K S H kvs ds) (hx : x = kV k) : ∃ o, DGet H a x o ∧ o.isSome = (PD.dget ds k).isSome ∧ ∀ d, PD.dget ds k = some d → ∃ v, o = some v ∧ RelD K S H v d := by
  rcases r.valV k with ⟨e1, e2⟩ | ⟨v, d, e1, e2, r'⟩
  · exact ⟨none, .inl ⟨kvs, k, hR, hx, e1.symm⟩, by rw [e2]; rfl, fun d e => by rw [e2] at e; cases e⟩
  · exact ⟨some v, .inl ⟨kvs, k, hR, hx, e1.symm⟩, by rw [e2]; rfl, fun d' e => by rw [e2] at e; cases e; exact ⟨v, rfl, r'⟩⟩
theorem o_in (hu : X.A.units + 65 < cLine) (hK : X.kw = K := by rfl) : OpR X (compareOp .In) (rop K gIn) := by
  subst hK
  intro pins s σ H x y v u Q I rx ry ⟨S, d1, d2, d, r1, r2, e, occ, k⟩
  unfold gIn at e
  cases q : gInB d1 d2 with
  | none => rw [q] at e; cases e
  | some c =>
    rw [q] at e
    cases e
    have kk := k (.bl c) H (Ext.refl H) (.bl c)
    unfold gInB at q
    split at q
    · split at q
      · rename_i h
        cases q
        obtain ⟨⟨h1, h2⟩, h3, h4⟩ := okE_both h
        exact op_inD hu pins s σ H x y v u Q I rx ry ⟨d1, _, r1.dp h1, r2.dp h3, h2, h4, kk⟩
      · cases q
    · split at q
      · rename_i h
        cases q
        obtain ⟨⟨h1, h2⟩, h3, h4⟩ := okE_both h
        exact op_in_tupD hu pins s σ H x y v u Q I rx ry ⟨d1, _, r1.dp h1, r2.dp h3, h2, h4, kk⟩
      · cases q
    · split at q
      · cases q
      rename_i hnT
      have hnT := Bool.eq_false_iff.mpr hnT
      cases ek : keyD d1 with
      | none => rw [ek] at q; cases q
      | some key =>
        rw [ek] at q
        cases q
        have e1 := keyD_some ek
        subst e1
        obtain ⟨a, kvs, rfl, hR, rk⟩ := r2.dict hnT
        obtain ⟨o, g, e2, _⟩ := rk.dget (x := x) (k := key) hR r1.key
        refine op_dict_in (by omega) pins s σ H x _ v u Q I rx ry ⟨a, o, rfl, g, ?_⟩
        rw [e2]
        exact kk
    · split at q
      · cases q
        exact op_in_str pins s σ H x y v u Q I rx ry ⟨_, _, r1.str, r2.str, kk⟩
      · cases q
    · cases q
theorem o_ix (hu : X.A.units + 1 < cLine) (hK : X.kw = K := by rfl) : IxR X (rop K gIx) := by
  subst hK
  intro value slice pins s σ H x y v u Q I rx ry ⟨S, d1, d2, d, r1, r2, e, occ, k⟩ hs
  unfold gIx at e
  split at e
  · obtain ⟨a, xs, rfl, h1, q1⟩ := r1.list
    obtain ⟨w, e1, q2⟩ := q1.atI e
    exact ix_list value slice pins s σ H _ y v u Q I rx ry ⟨a, xs, _, w, rfl, r2.int, h1, e1, k w H (Ext.refl H) q2⟩ hs
  · obtain ⟨a, xs, rfl, h1, q1⟩ := r1.tuple
    obtain ⟨w, e1, q2⟩ := q1.atI e
    exact ix_tup value slice pins s σ H _ y v u Q I rx ry ⟨a, xs, _, w, rfl, r2.int, h1, e1, k w H (Ext.refl H) q2⟩ hs
  · split at e
    · rename_i z i hl
      cases ec : L2.atI z.cps.toList i with
      | none => rw [ec] at e; cases e
      | some c =>
        rw [ec] at e
        cases e
        exact ix_str value slice pins s σ H x y v u Q I rx ry ⟨z, i, c, r1.str, r2.int, hl, ec, k _ H (Ext.refl H) (.str _)⟩ hs
    · cases e
  · rename_i _ a
    cases ek : keyD d2 with
    | none => rw [ek] at e; cases e
    | some key =>
      rw [ek] at e
      have e1 := keyD_some ek
      subst e1
      rcases r1.dict2 with ⟨ad, kv, rfl, hR, rk⟩ | ⟨_, _, _, _, hT⟩
      rotate_left
      · have e : dget _ key = some d := e
        rw [hT.dget] at e; cases e
      obtain ⟨o, g, _, e3⟩ := rk.dget (x := y) (k := key) hR r2.key
      obtain ⟨w, rfl, rw'⟩ := e3 d e
      exact ix_dict hu value slice pins s σ H _ y v u Q I rx ry ⟨ad, w, rfl, g, k w H (Ext.refl H) rw'⟩ hs
  · cases e
end
def cutD (ds : List D) (lo hi : Option Int) : List D := (ds.drop (HT.sIx ds.length 0 lo)).take (HT.sIx ds.length ds.length hi - HT.sIx ds.length 0 lo)
def gSl (lo hi : Option Int) : D → Option D
  | .list ds => some (.list (cutD ds lo hi))
  | .tuple ds => some (.tuple (cutD ds lo hi))
  | .str z => if z.length ≤ sizeLine then some (.str (cutS z lo hi)) else none
  | _ => none
def rsl (K : KWd) : V → Option Int → Option Int → Hp → VK → Prop := fun x lo hi H Q => ∃ S d1 d, RR K S H x d1 ∧ gSl lo hi d1 = some d ∧ (∀ a, S a → H a ≠ none) ∧ ∀ v H', Ext H H' → RelD K S H' v d → Q v H'
section
variable {X : Cx} {F : Frm} {K : KWd} {S : Addr → Prop} {H : Hp}
theorem RelDs.cut {xs : List V} {ds : List D} {lo hi : Option Int} (r : RelDs K S H xs ds) : RelDs K S H (cutV xs lo hi) (cutD ds lo hi) := by
  unfold cutV cutD
  rw [r.length]
  exact (r.drop _).take _
theorem o_sl (hK : X.kw = K := by rfl) : SlR X (rsl K) := by
  subst hK
  intro pins s σ H x v vl vu lo hi sl Q I rx hs pl pu ⟨S, d1, d, r1, e, occ, k⟩
  unfold gSl at e
  split at e
  · cases e
    obtain ⟨a, xs, rfl, h1, q1⟩ := r1.list
    exact sl_list pins s σ H _ v vl vu lo hi sl Q I rx hs pl pu ⟨a, xs, rfl, h1, fun p hp => k _ _ (Ext.new hp) (.lst (fun z => occ _ z hp) (.inl upd_same) (q1.cut.ext (Ext.new hp)))⟩
  · cases e
    have R1 := r1.tupleD
    obtain ⟨a, xs, rfl, h1, q1⟩ := r1.tuple
    refine FrzT.sl_tupAF pins s σ H _ v vl vu lo hi sl Q I rx hs pl pu ⟨a, xs, rfl, h1, fun hw => ?_, fun _ p o hp hc hd => k _ _ (Ext.new hp) (.tup (fun z => occ _ z hp) ⟨o, upd_same, hc, hd⟩ (q1.cut.ext (Ext.new hp)))⟩
    have e : ∀ ds : List D, xs.length = ds.length → cutD ds lo hi = ds := fun ds hl => by
      unfold cutD
      rw [← hl, hw.1, hw.2, List.drop_zero, Nat.sub_zero, List.take_of_length_le (by omega)]
    rw [e _ q1.length] at k
    exact k _ H (Ext.refl H) R1
  · split at e
    · rename_i hl
      cases e
      exact sl_str pins s σ H x v vl vu lo hi sl Q I rx hs pl pu ⟨_, r1.str, hl, k _ H (Ext.refl H) (.str _)⟩
    · cases e
  · cases e
def rdO (F : Frm) (m : M (Option Int)) (eff : List Nat) : TO := fun σ H Q => ∃ B A ρ o ρ', Ev F B A σ H ρ ∧ m ρ = some (o, ρ') ∧ ∀ H', Post F B A σ H ρ eff H' ρ' → Q o H'
def mNoP : M (Option Int) := fun ρ => some (none, ρ)
def mP (m : M D) : M (Option Int) := fun ρ => match m ρ with
  | some (.int i, ρ1) => some (some i, ρ1)
  | _ => none
theorem PO.mono {e : Option Expr} {t t' : TO} (h : PO X e t) (hm : ∀ σ H Q, t' σ H Q → t σ H Q) : PO X e t' := ⟨fun pins s σ H Q I q => h.run pins s σ H Q I (hm σ H Q q)⟩
theorem xo_none : PO X none (rdO F mNoP []) := PO.mono po_none fun σ H Q ⟨B, A, ρ, o, ρ', E, hm, k⟩ => by
  cases hm
  exact k H (Post.refl E)
theorem xo_some {e : Expr} {m : M D} {dep eff : List Nat} (h : PE X e (rd F m dep eff)) : PO X (some e) (rdO F (mP m) eff) := PO.mono (po_some h) fun σ H Q ⟨B, A, ρ, o, ρ', E, hm, k⟩ => by
  unfold mP at hm
  split at hm
  · rename_i i ρ1 e1
    cases hm
    exact ⟨B, A, ρ, _, _, E, e1, fun v H1 P1 r1 => ⟨i, (r1.rr P1.env).int, k H1 P1⟩⟩
  · cases hm
def mSl (m : M D) (ml mh : M (Option Int)) : M D := fun ρ => match m ρ with
  | some (d, ρ1) => (match ml ρ1 with
    | some (lo, ρ2) => (match mh ρ2 with
      | some (hi, ρ3) => (match gSl lo hi d with
        | some r => some (r, ρ3)
        | none => none)
      | none => none)
    | none => none)
  | none => none
theorem x_slice {e : Expr} {lo hi : Option Expr} {p2 pos : Pos} {m : M D} {ml mh : M (Option Int)} {dep eff effl effh : List Nat} (he : PE X e (rd F m dep eff)) (hl : PO X lo (rdO F ml effl)) (hh : PO X hi (rdO F mh effh)) (hd1 : ∀ i ∈ dep, i ∉ effl := by decide) (hd2 : ∀ i ∈ dep, i ∉ effh := by decide) (hK : X.kw = F.K := by rfl) :
    PE X (.Subscript e (.Slice lo hi none p2) pos) (rd F (mSl m ml mh) [] (eff ++ (effl ++ effh))) := by
  refine PE.mono (pe_slice (o_sl hK) he hl hh) fun σ H Q ⟨B, A, ρ, d, ρ', E, hm, k⟩ => ?_
  unfold mSl at hm
  split at hm
  · rename_i d1 ρ1 e1
    split at hm
    · rename_i lo ρ2 e2
      split at hm
      · rename_i hi ρ3 e3
        split at hm
        · rename_i r e4
          cases hm
          refine ⟨B, A, ρ, d1, ρ1, E, e1, fun v H1 P1 r1 => ⟨B, A, ρ1, lo, ρ2, P1.env, e2, fun H2 P2 => ⟨B, A, ρ2, hi, _, P2.env, e3, fun H3 P3 => ?_⟩⟩⟩
          exact ⟨_, d1, d, ((r1.later P2.gro P2.lv hd1).later P3.gro P3.lv hd2).rr P3.env, e4, P3.env.occA, fun v H' g r => k v H' ((P1.trans (P2.trans P3)).ext g) (.inl r)⟩
        · cases hm
      · cases hm
    · cases hm
  · cases hm
end
end PD
set_option Elab.async false
set_option linter.all false
set_option maxRecDepth 100000
set_option maxHeartbeats 2000000
namespace PD
open PySem PySem.Spec PyProof.Rows L2 GxR
abbrev allInts := gLe.allInts
def gLen : List D → Option D
  | [.list ds] => some (.int ds.length)
  | [.tuple ds] => some (.int ds.length)
  | [.dict ds] => if isT ds then none else some (.int ds.length)
  | [.str z] => if z.length ≤ sizeLine then some (.int z.length) else none
  | _ => none
def gAbs : List D → Option D
  | [.int i] => some (.int (if i < 0 then -i else i))
  | _ => none
def gInt : List D → Option D
  | [.int i] => some (.int i)
  | [.bool k] => some (.int (if k then 1 else 0))
  | _ => none
def gMax2 : List D → Option D
  | [.int i, .int j] => some (.int (if j > i then j else i))
  | _ => none
def gMin2 : List D → Option D
  | [.int i, .int j] => some (.int (if j < i then j else i))
  | _ => none
def gStr : List D → Option D
  | [.int i] => if i.natAbs.log2 < 1920 then some (.str (toString i)) else none
  | [.str z] => some (.str z)
  | _ => none
def gListOf : List D → Option D
  | [.list ds] => some (.list ds)
  | [.tuple ds] => some (.list ds)
  | [.dict ds] => if isT ds then none else some (.list (ds.map (·.1)))
  | _ => none
def gTupOf : List D → Option D
  | [.list ds] => some (.tuple ds)
  | [.tuple ds] => some (.tuple ds)
  | _ => none
def gSum : List D → Option D
  | [.list ds] => (allInts ds).map fun ns => .int ns.sum
  | _ => none
def sortI (ns : List Int) : List Int := ns.mergeSort (fun a b => decide (a ≤ b))
def gSorted : List D → Option D
  | [.list ds] => (allInts ds).map fun ns => .list ((sortI ns).map .int)
  | [.dict kvs] => (allInts (kvs.map (·.1))).bind fun ks => if ks.length < 64 then some (.list ((sortI ks).map .int)) else none
  | _ => none
theorem sortI_perm (ns : List Int) : (sortI ns).Perm ns := List.mergeSort_perm ns _
theorem sortI_sorted (ns : List Int) : (sortI ns).Pairwise (· ≤ ·) := by
  have h := List.pairwise_mergeSort (le := fun a b : Int => decide (a ≤ b)) (fun a b c h1 h2 => by simp only [decide_eq_true_eq] at *; omega) (fun a b => by simp only [Bool.or_eq_true, decide_eq_true_eq]; omega) ns
  exact h.imp fun h => by simpa using h
theorem sorted_uniq {xs ys : List Int} (p : xs.Perm ys) (hx : xs.Pairwise (· ≤ ·)) (hy : ys.Pairwise (· ≤ ·)) : xs = ys := List.Perm.eq_of_pairwise (fun a b _ _ h1 h2 => by omega) hx hy p
section
variable {X : Cx} {K : KWd} {S : Addr → Prop} {H : Hp}
theorem prs1 {vs : List V} {d : D} (h : Paired (RR K S H) vs [d]) : ∃ v, vs = [v] ∧ RR K S H v d := by
  cases h with
  | cons r t => cases t; exact ⟨_, rfl, r⟩
theorem prs2 {vs : List V} {d e : D} (h : Paired (RR K S H) vs [d, e]) : ∃ v w, vs = [v, w] ∧ RR K S H v d ∧ RR K S H w e := by
  cases h with
  | cons r t => cases t with
    | cons r' t => cases t; exact ⟨_, _, rfl, r, r'⟩
theorem RelKs.length : ∀ {vs : List (Key × V)} {ds : List (D × D)}, RelKs K S H vs ds → vs.length = ds.length
  | _, _, .nil => rfl
  | _, _, .cons _ t => congrArg (· + 1) t.length
theorem RelKs.keys : ∀ {vs : List (Key × V)} {ds : List (D × D)}, RelKs K S H vs ds → RelDs K S H (vs.map fun kv => kV kv.1) (ds.map (·.1))
  | _, _, .nil => .nil
  | _, _, .cons (k := k) _ t => .cons (by cases k; exact .int _; exact .str _) t.keys
theorem call_lenDK : CallR X (.builtin "len") (fun xs H Q => ∃ a kvs, xs = [V.ref a] ∧ Rd H a (.dK kvs) ∧ Q (.int kvs.length) H) := by
  intro pins s σ H xs us Q I r ⟨a, kvs, ex, hd, q⟩
  subst ex
  obtain ⟨u, rfl, ru⟩ := vals1 r
  cases ru
  exact d_len I hd fun t s' I' => ⟨.int kvs.length, H, I', ⟨t, rfl⟩, q⟩
theorem c_len (hK : X.kw = K := by rfl) : CallR X (.builtin "len") (rcall K gLen) := by
  subst hK
  intro pins s σ H xs us Q I r ⟨S, ds, d, hr, e, occ, k⟩
  unfold gLen at e
  split at e
  · cases e
    obtain ⟨v, rfl, r1⟩ := prs1 hr
    obtain ⟨a, ys, rfl, h1, q1⟩ := r1.list
    exact call_len pins s σ H _ us Q I r ⟨_, ys.length, rfl, .inl ⟨ys, h1, rfl⟩, by rw [q1.length]; exact k _ H (Ext.refl H) (.int _)⟩
  · cases e
    obtain ⟨v, rfl, r1⟩ := prs1 hr
    obtain ⟨a, ys, rfl, h1, q1⟩ := r1.tuple
    exact call_len pins s σ H _ us Q I r ⟨_, ys.length, rfl, .inr ⟨ys, h1, rfl⟩, by rw [q1.length]; exact k _ H (Ext.refl H) (.int _)⟩
  · split at e
    · cases e
    rename_i hnT
    cases e
    obtain ⟨v, rfl, r1⟩ := prs1 hr
    obtain ⟨a, ys, rfl, h1, q1⟩ := r1.dict (Bool.eq_false_iff.mpr hnT)
    exact call_lenDK pins s σ H _ us Q I r ⟨a, ys, rfl, h1, by rw [q1.length]; exact k _ H (Ext.refl H) (.int _)⟩
  · split at e
    · rename_i z hl
      cases e
      obtain ⟨v, rfl, r1⟩ := prs1 hr
      exact call_len pins s σ H _ us Q I r ⟨_, z.length, rfl, by rw [r1.str]; exact ⟨hl, rfl⟩, k _ H (Ext.refl H) (.int _)⟩
    · cases e
  · cases e
theorem c_abs : CallR X (.builtin "abs") (rcall K gAbs) := by
  intro pins s σ H xs us Q I r ⟨S, ds, d, hr, e, occ, k⟩
  unfold gAbs at e
  split at e
  · cases e
    obtain ⟨v, rfl, r1⟩ := prs1 hr
    exact call_abs pins s σ H _ us Q I r ⟨_, by rw [r1.int], k _ H (Ext.refl H) (.int _)⟩
  · cases e
theorem c_int : CallR X (.type "int") (rcall K gInt) := by
  intro pins s σ H xs us Q I r ⟨S, ds, d, hr, e, occ, k⟩
  unfold gInt at e
  split at e
  · cases e
    obtain ⟨v, rfl, r1⟩ := prs1 hr
    exact call_int1 pins s σ H _ us Q I r (.inl ⟨_, by rw [r1.int], k _ H (Ext.refl H) (.int _)⟩)
  · cases e
    obtain ⟨v, rfl, r1⟩ := prs1 hr
    exact call_int1 pins s σ H _ us Q I r (.inr ⟨_, by rw [r1.bool], k _ H (Ext.refl H) (.int _)⟩)
  · cases e
theorem c_max2 (hc : X.calm = true) : CallR X (.builtin "max") (rcall K gMax2) := by
  intro pins s σ H xs us Q I r ⟨S, ds, d, hr, e, occ, k⟩
  unfold gMax2 at e
  split at e
  · cases e
    obtain ⟨v, w, rfl, r1, r2⟩ := prs2 hr
    exact call_max2 hc pins s σ H _ us Q I r ⟨_, _, by rw [r1.int, r2.int], k _ H (Ext.refl H) (.int _)⟩
  · cases e
theorem c_min2 (hc : X.calm = true) : CallR X (.builtin "min") (rcall K gMin2) := by
  intro pins s σ H xs us Q I r ⟨S, ds, d, hr, e, occ, k⟩
  unfold gMin2 at e
  split at e
  · cases e
    obtain ⟨v, w, rfl, r1, r2⟩ := prs2 hr
    exact call_min2 hc pins s σ H _ us Q I r ⟨_, _, by rw [r1.int, r2.int], k _ H (Ext.refl H) (.int _)⟩
  · cases e
theorem c_str : CallR X (.type "str") (rcall K gStr) := by
  intro pins s σ H xs us Q I r ⟨S, ds, d, hr, e, occ, k⟩
  unfold gStr at e
  split at e
  · split at e
    · rename_i i hz
      cases e
      obtain ⟨v, rfl, r1⟩ := prs1 hr
      exact call_str_int pins s σ H _ us Q I r ⟨_, by rw [r1.int], hz, k _ H (Ext.refl H) (.str _)⟩
    · cases e
  · cases e
    obtain ⟨v, rfl, r1⟩ := prs1 hr
    exact SkE.call_str_str pins s σ H _ us Q I r ⟨_, by rw [r1.str], k _ H (Ext.refl H) (.str _)⟩
  · cases e
theorem c_tuple (hK : X.kw = K := by rfl) : CallR X (.type "tuple") (rcall K gTupOf) := by
  subst hK
  intro pins s σ H xs us Q I r ⟨S, ds, d, hr, e, occ, k⟩
  unfold gTupOf at e
  split at e
  · cases e
    obtain ⟨v, rfl, r1⟩ := prs1 hr
    obtain ⟨a, ys, rfl, h1, q1⟩ := r1.list
    exact FrzT.call_tuple_ofF pins s σ H _ us Q I r ⟨a, ys, rfl, .inl ⟨h1, fun p o hp hc hd => k _ _ (Ext.new hp) (.tup (fun z => occ _ z hp) ⟨o, upd_same, hc, hd⟩ (q1.ext (Ext.new hp)))⟩⟩
  · cases e
    obtain ⟨v, rfl, r1⟩ := prs1 hr
    have R1 := r1.tupleD
    obtain ⟨a, ys, rfl, h1, q1⟩ := r1.tuple
    exact call_tuple_of pins s σ H _ us Q I r ⟨a, ys, rfl, .inr ⟨h1, k _ H (Ext.refl H) R1⟩⟩
  · cases e
theorem rels_ints (ns : List Int) : RelDs K S H (ns.map V.int) (ns.map .int) := by
  induction ns with
  | nil => exact .nil
  | cons n ns ih => exact .cons (.int n) ih
theorem keys_ints {S : Addr → Prop} {H : Hp} : ∀ {kvs : List (Key × V)} {ds : List (D × D)} {ks : List Int}, RelKs K S H kvs ds → allInts (ds.map (·.1)) = some ks → kvs.map (·.1) = ks.map Sum.inl
  | _, _, ks, .nil, e => by cases e; rfl
  | _, _, ks, .cons (k := k) (ds := ds) r t, e => by
    cases k with
    | inl i =>
      have e : (allInts (ds.map (·.1))).map (i :: ·) = some ks := e
      cases q : allInts (ds.map (·.1)) with
      | none => rw [q] at e; cases e
      | some ks' =>
        rw [q] at e
        cases e
        rw [List.map_cons, keys_ints t q]; rfl
    | inr x => cases e
theorem c_sorted (hcalm : X.calm = true) (hK : X.kw = K := by rfl) : CallR X (.builtin "sorted") (rcall K gSorted) := by
  subst hK
  intro pins s σ H xs us Q I r ⟨S, ds, d, hr, e, occ, k⟩
  unfold gSorted at e
  split at e
  · rename_i l
    cases q : allInts l with
    | none => rw [q] at e; cases e
    | some ns =>
      rw [q] at e
      cases e
      obtain ⟨v, rfl, r1⟩ := prs1 hr
      obtain ⟨a, ys, rfl, h1, q1⟩ := r1.list
      have z := allInts_rel q q1
      subst z
      refine cr_sortedI pins s σ H _ us Q I r ⟨a, ns, rfl, h1, fun ns' p hp hs hn => ?_⟩
      have e : ns' = sortI ns := sorted_uniq (hp.trans (sortI_perm ns).symm) hs (sortI_sorted ns)
      subst e
      exact k _ _ (Ext.new hn) (.lst (fun z => occ _ z hn) (.inl upd_same) ((rels_ints _).ext (Ext.new hn)))
  · rename_i kvs
    cases q : allInts (kvs.map (·.1)) with
    | none => rw [q] at e; cases e
    | some ks =>
      rw [q] at e
      have e : (if ks.length < 64 then some (PyData.list ((sortI ks).map .int)) else none) = some d := e
      split at e
      · rename_i h64
        cases e
        obtain ⟨v, rfl, r1⟩ := prs1 hr
        rcases r1.dict2 with ⟨a, ys, rfl, h1, q1⟩ | ⟨_, _, _, _, hT⟩
        rotate_left
        · cases hT with
          | mk _ => cases q
        refine call_sortedDI hcalm pins s σ H _ us Q I r ⟨a, ys, ks, rfl, h1, keys_ints q1 q, h64, fun ns' p hp hs hn => ?_⟩
        have e : ns' = sortI ks := sorted_uniq (hp.trans (sortI_perm ks).symm) hs (sortI_sorted ks)
        subst e
        exact k _ _ (Ext.new hn) (.lst (fun z => occ _ z hn) (.inl upd_same) ((rels_ints _).ext (Ext.new hn)))
      · cases e
  · cases e
end
end PD
set_option Elab.async false
set_option linter.all false
set_option maxRecDepth 100000
set_option maxHeartbeats 2000000
namespace PD
open PySem PySem.Spec PyProof.Rows L2 GxR
section
variable {F : Frm} {B : List Addr} {A : Nat → Addr} {σ : L2.St} {H H' : Hp} {ρ ρ' : Rho}
theorem own_set {i : Nat} {z : Option (Bool × D)} {j : Nat} {e : D} (h : (ρ.set i z)[j]? = some (some (true, e))) : (i = j ∧ z = some (true, e)) ∨ (i ≠ j ∧ ρ[j]? = some (some (true, e))) := by
  rw [get_set] at h
  by_cases hij : i = j
  · rw [if_pos hij] at h
    split at h
    · exact .inl ⟨hij, Option.some.inj h⟩
    · cases h
  · rw [if_neg hij] at h
    exact .inr ⟨hij, h⟩
theorem sig_set {σ : L2.St} {i j : Nat} {z : Option V} (h : i ≠ j) : (σ.set i z)[j]? = σ[j]? := by rw [List.getElem?_set]; rw [if_neg h]
theorem Ev.setPlain (E : Ev F B A σ H ρ) {i : Nat} {v : V} {d : D} (hi : i ∉ F.io) (hl : i < ρ.length) (r : RelD F.K (Av F B A ρ) H v d) : Ev F B A (σ.set i (some v)) H (ρ.set i (some (false, d))) := by
  have hav : ∀ a, Av F B A (ρ.set i (some (false, d))) a → Av F B A ρ a := fun a h => by
    rcases h with h | h | ⟨j, e, h, z⟩
    · exact .inl h
    · exact .inr (.inl h)
    · rcases own_set h with ⟨_, q⟩ | ⟨_, q⟩
      · cases q
      · exact .inr (.inr ⟨j, e, q, z⟩)
  have own' : ∀ {j : Nat} {e : D}, (ρ.set i (some (false, d)))[j]? = some (some (true, e)) → i ≠ j ∧ ρ[j]? = some (some (true, e)) := fun h => by
    rcases own_set h with ⟨_, q⟩ | q
    · cases q
    · exact q
  refine ⟨by rw [List.length_set, List.length_set]; exact E.len, fun j e h => ?_, fun j e h => ?_, fun j k e1 e2 a h1 h2 => E.inj j k e1 e2 a (own' h1).2 (own' h2).2, fun j e a h => E.nS j e a (own' h).2, fun j hj => ?_, by rw [List.length_set]; exact E.few, E.occ, E.occB, E.chg, E.tabs, fun r hr => (E.roots r hr).mono (C := fun _ => False) (Gro.refl _) hav fun _ z => z.elim⟩
  · rw [get_set] at h
    by_cases hij : i = j
    · subst hij
      rw [if_pos rfl, if_pos hl] at h
      cases h
      exact ⟨v, by rw [List.getElem?_set, if_pos rfl, if_pos (by rw [← E.len]; exact hl)], r.mono (C := fun _ => False) (Gro.refl _) hav fun _ z => z.elim⟩
    · rw [if_neg hij] at h
      obtain ⟨w, h1, h2⟩ := E.plain j e h
      exact ⟨w, by rw [sig_set hij]; exact h1, h2.mono (C := fun _ => False) (Gro.refl _) hav fun _ z => z.elim⟩
  · obtain ⟨hij, h⟩ := own' h
    obtain ⟨h1, h2⟩ := E.own j e h
    exact ⟨by rw [sig_set hij]; exact h1, h2.mono (C := fun _ => False) (Gro.refl _) hav (fun _ z => z.elim) fun _ _ => id⟩
  · obtain ⟨e, h4, h1⟩ := E.ios j hj
    exact ⟨e, by rw [get_set, if_neg (show ¬ i = j from fun z => hi (z ▸ hj))]; exact h4, h1⟩
def upA (A : Nat → Addr) (i : Nat) (p : Addr) : Nat → Addr := fun j => if j = i then p else A j
theorem upA_same {i : Nat} {p : Addr} : upA A i p i = p := if_pos rfl
theorem upA_ne {i j : Nat} {p : Addr} (h : i ≠ j) : upA A i p j = A j := if_neg (Ne.symm h)
theorem upA_in {i j : Nat} {p : Addr} (hi : i < 1000) : upA A i p (j + 1000) = A (j + 1000) := upA_ne (by omega)
theorem Pt.upA_ne {i j : Nat} {p a : Addr} {d : D} (hi : i < 1000) (h : i ≠ j) (z : Pt (upA A i p) j d a) : Pt A j d a := by
  unfold Pt at z ⊢
  rwa [PD.upA_ne h, upA_in hi] at z
theorem Ev.setOwn (E : Ev F (p :: B) A σ H ρ) {i : Nat} {d : D} (hi : i ∉ F.io) (hl : i < ρ.length) (r : RelO F.K (Av F (p :: B) A ρ) H p d) (hp : p ∉ B) : Ev F B (upA A i p) (σ.set i (some (.ref p))) H (ρ.set i (some (true, d))) := by
  have hb := r.notB
  have hi1 : i < 1000 := Nat.lt_of_lt_of_le hl E.few
  have hav : ∀ a, Av F B (upA A i p) (ρ.set i (some (true, d))) a → Av F (p :: B) A ρ a := fun a h => by
    rcases h with h | h | ⟨j, e, h, z⟩
    · exact .inl h
    · exact .inr (.inl (List.mem_cons_of_mem _ h))
    · rcases own_set h with ⟨hij, q⟩ | ⟨hij, q⟩
      · cases q
        rw [z.of_not hb, ← hij, upA_same]
        exact .inr (.inl List.mem_cons_self)
      · exact .inr (.inr ⟨j, e, q, z.upA_ne hi1 hij⟩)
  obtain ⟨hn, h0, hS⟩ := E.occB p List.mem_cons_self
  have apart : ∀ {j : Nat} {e : D}, ρ[j]? = some (some (true, e)) → ¬ Pt A j e p := fun {j e} h z => by
    by_cases hj : j ∈ F.io
    · obtain ⟨e', h4, _, _, h3⟩ := E.ios j hj
      rw [h] at h4
      cases h4
      exact (h3 p z).2 List.mem_cons_self
    · exact (E.nS j e p h z hj).2.1 List.mem_cons_self
  refine ⟨by rw [List.length_set, List.length_set]; exact E.len, fun j e h => ?_, fun j e h => ?_, fun j k e1 e2 a h1 h2 z1 z2 => ?_, fun j e a h z hj => ?_, fun j hj => ?_, by rw [List.length_set]; exact E.few, E.occ, fun b hb => E.occB b (List.mem_cons_of_mem _ hb), E.chg, E.tabs, fun r hr => (E.roots r hr).mono (C := fun _ => False) (Gro.refl _) hav fun _ z => z.elim⟩
  · rw [get_set] at h
    by_cases hij : i = j
    · subst hij
      rw [if_pos rfl, if_pos hl] at h
      cases h
    · rw [if_neg hij] at h
      obtain ⟨w, h1, h2⟩ := E.plain j e h
      exact ⟨w, by rw [sig_set hij]; exact h1, h2.mono (C := fun _ => False) (Gro.refl _) hav fun _ z => z.elim⟩
  · rcases own_set h with ⟨hij, q⟩ | ⟨hij, q⟩
    · subst hij
      cases q
      exact ⟨by rw [List.getElem?_set, if_pos rfl, if_pos (by rw [← E.len]; exact hl), upA_same], RelO.toOwn (by rw [upA_same]; exact r.mono (C := fun _ => False) (Gro.refl _) hav (fun _ z => z.elim) id)⟩
    · obtain ⟨h1, h2⟩ := E.own j e q
      exact ⟨by rw [sig_set hij, upA_ne hij]; exact h1, (h2.mono (C := fun _ => False) (Gro.refl _) hav (fun _ z => z.elim) fun _ _ => id).at_ (upA_ne hij) fun _ => upA_in hi1⟩
  · rcases own_set h1 with ⟨hij, q1⟩ | ⟨hij, q1⟩ <;> rcases own_set h2 with ⟨hik, q2⟩ | ⟨hik, q2⟩
    · exact hij.symm.trans hik
    · cases q1
      have e := z1.of_not hb
      rw [← hij, upA_same] at e
      exact absurd (e ▸ z2.upA_ne hi1 hik) (apart q2)
    · cases q2
      have e := z2.of_not hb
      rw [← hik, upA_same] at e
      exact absurd (e ▸ z1.upA_ne hi1 hij) (apart q1)
    · exact E.inj j k e1 e2 a q1 q2 (z1.upA_ne hi1 hij) (z2.upA_ne hi1 hik)
  · rcases own_set h with ⟨hij, q⟩ | ⟨hij, q⟩
    · cases q
      have e := z.of_not hb
      rw [← hij, upA_same] at e
      rw [e]
      exact ⟨hS, hp, h0⟩
    · obtain ⟨g1, g2, g3⟩ := E.nS j e a q (z.upA_ne hi1 hij) hj
      exact ⟨g1, fun z => g2 (List.mem_cons_of_mem _ z), g3⟩
  · obtain ⟨e, h4, h1, h2, h3⟩ := E.ios j hj
    have hij : i ≠ j := fun z => hi (z ▸ hj)
    exact ⟨e, by rw [get_set, if_neg hij]; exact h4, by rw [upA_ne hij]; exact h1, by rw [upA_in hi1]; exact h2, fun a z => ⟨(h3 a (z.upA_ne hi1 hij)).1, fun z2 => (h3 a (z.upA_ne hi1 hij)).2 (List.mem_cons_of_mem _ z2)⟩⟩
theorem Ev.writeP (E : Ev F B A σ H ρ) {i : Nat} {d d' : D} (e : ρ[i]? = some (some (true, d))) (g : Gro (Pt A i d) H H') (r : Own F.K (Av F B A ρ) H' A i d') (hk : isBg d' = isBg d) : Ev F B A σ H' (ρ.set i (some (true, d'))) := by
  have hl : i < ρ.length := (List.getElem?_eq_some_iff.mp e).1
  have hC : ∀ a, Pt A i d a → Av F B A ρ a := fun a h => .inr (.inr ⟨i, d, e, h⟩)
  have own' : ∀ {j : Nat} {e' : D}, (ρ.set i (some (true, d')))[j]? = some (some (true, e')) → ∃ e0, ρ[j]? = some (some (true, e0)) ∧ isBg e' = isBg e0 := fun {j e'} h => by
    rcases own_set h with ⟨hij, z⟩ | ⟨_, q⟩
    · cases z
      exact ⟨d, hij ▸ e, hk⟩
    · exact ⟨e', q, rfl⟩
  have pt' : ∀ {j : Nat} {e' e0 : D} {a : Addr}, isBg e' = isBg e0 → Pt A j e' a → Pt A j e0 a := fun h z => z.imp fun q => h ▸ q
  have hav : ∀ a, Av F B A (ρ.set i (some (true, d'))) a → Av F B A ρ a := fun a h => by
    rcases h with h | h | ⟨j, e', h, z⟩
    · exact .inl h
    · exact .inr (.inl h)
    · obtain ⟨e0, q, hk0⟩ := own' h
      exact .inr (.inr ⟨j, e0, q, pt' hk0 z⟩)
  refine ⟨by rw [List.length_set]; exact E.len, fun j e' h => ?_, fun j e' h => ?_, fun j k e1 e2 a h1 h2 z1 z2 => ?_, fun j e' a h z hj => ?_, fun j hj => ?_, by rw [List.length_set]; exact E.few, fun a h => g.live a (E.occ a h), fun b hb => ⟨g.live b (E.occB b hb).1, (E.occB b hb).2⟩, ⟨fun a o h n t => ?_, fun P t => g.tabs P (E.chg.tabs P t), fun a n => g.live a (E.chg.live a n)⟩, fun P hP => g.tabs P (E.tabs P hP), fun r hr => (E.roots r hr).mono g hav hC⟩
  · rw [get_set] at h
    by_cases hij : i = j
    · subst hij
      rw [if_pos rfl, if_pos hl] at h
      cases h
    · rw [if_neg hij] at h
      obtain ⟨w, h1, h2⟩ := E.plain j e' h
      exact ⟨w, h1, h2.mono g hav hC⟩
  · rcases own_set h with ⟨hij, q⟩ | ⟨hij, q⟩
    · subst hij
      cases q
      exact ⟨(E.own i d e).1, r.mono (C := fun _ => False) (Gro.refl _) hav (fun _ z => z.elim) fun _ _ => id⟩
    · obtain ⟨h1, h2⟩ := E.own j e' q
      exact ⟨h1, h2.mono g hav hC fun a z1 z2 => hij (E.inj i j d e' a e q z2 z1)⟩
  · obtain ⟨f1, q1, k1⟩ := own' h1
    obtain ⟨f2, q2, k2⟩ := own' h2
    exact E.inj j k f1 f2 a q1 q2 (pt' k1 z1) (pt' k2 z2)
  · obtain ⟨f1, q1, k1⟩ := own' h
    exact E.nS j f1 a q1 (pt' k1 z) hj
  · obtain ⟨e', h4, h1, h2, h3⟩ := E.ios j hj
    by_cases hij : i = j
    · subst hij
      rw [e] at h4
      cases h4
      exact ⟨d', by rw [get_set, if_pos rfl, if_pos hl], h1, fun z => h2 (hk ▸ z), fun a z => h3 a (pt' hk z)⟩
    · exact ⟨e', by rw [get_set, if_neg hij]; exact h4, h1, h2, h3⟩
  · refine g.keep a o (E.chg.keep a o h n t) (fun z => ?_) t
    by_cases hj : i ∈ F.io
    · obtain ⟨e', h4, h1, h2, h3⟩ := E.ios i hj
      rw [e] at h4
      cases h4
      rcases z with z | ⟨zb, z⟩
      · exact n ⟨i, hj, .inl (z.trans h1)⟩
      · exact n ⟨i, hj, .inr (z.trans (h2 zb))⟩
    · rw [(E.nS i d a e z hj).2.2] at h
      cases h
theorem Ev.write (E : Ev F B A σ H ρ) {i : Nat} {d d' : D} (e : ρ[i]? = some (some (true, d))) (g : Gro (fun a => a = A i) H H') (r : RelO F.K (Av F B A ρ) H' (A i) d') (hb : isBg d = false) : Ev F B A σ H' (ρ.set i (some (true, d'))) :=
  E.writeP e (g.mono fun a z => .inl z) r.toOwn (by rw [hb, r.notB])
theorem Post.writeP {eff : List Nat} {H0 : Hp} {ρ0 : Rho} (P : Post F B A σ H0 ρ0 eff H ρ) {i : Nat} {d d' : D} (e : ρ[i]? = some (some (true, d))) (g : Gro (Pt A i d) H H') (r : Own F.K (Av F B A ρ) H' A i d') (hk : isBg d' = isBg d) : Post F B A σ H0 ρ0 (eff ++ [i]) H' (ρ.set i (some (true, d'))) := by
  refine P.trans ⟨P.env.writeP e g r hk, g.mono fun a z => ⟨i, d, e, z⟩, ⟨fun j hj => by rw [get_set, if_neg (fun z => hj (by rw [z]; simp))], fun j e' h => ?_⟩⟩
  rcases own_set h with ⟨hij, z⟩ | ⟨_, q⟩
  · cases z
    exact ⟨d, hij ▸ e, fun z => hk ▸ z⟩
  · exact ⟨e', q, id⟩
theorem Post.write {eff : List Nat} {H0 : Hp} {ρ0 : Rho} (P : Post F B A σ H0 ρ0 eff H ρ) {i : Nat} {d d' : D} (e : ρ[i]? = some (some (true, d))) (g : Gro (fun a => a = A i) H H') (r : RelO F.K (Av F B A ρ) H' (A i) d') (hb : isBg d = false := by first | rfl | assumption) : Post F B A σ H0 ρ0 (eff ++ [i]) H' (ρ.set i (some (true, d'))) :=
  P.writeP e (g.mono fun a z => .inl z) r.toOwn (by rw [hb, r.notB])
theorem Gro.upd {a : Addr} {o o' : HO} (h : H a = some o) (hn : ∀ ps, o ≠ .tbl ps) (hc : ∀ c q, o ≠ LamX.CodeO c q := by (intro c q z; first | exact PD.TDict.noCode z | (unfold LamX.CodeO at z; cases z))) : Gro (fun b => b = a) H (upd H a o') := gro_frz h hn hc
end
inductive Out where
  | nx (ρ : Rho) | rt (d : D) (ρ : Rho) | bk (ρ : Rho) | ct (ρ : Rho)
def Ret (F : Frm) (ρ : Rho) (H : Hp) (v : V) (d : D) : Prop := if F.new then ∃ p, v = .ref p ∧ F.H0 p = none ∧ RelO F.K (fun a => F.S a ∨ a = p) H p d ∧ ∀ j ∈ F.io, ∀ d', ρ[j]? = some (some (true, d')) → Own F.K (fun a => F.S a ∨ a = p) H F.A0 j d' else RelD F.K F.S H v d
theorem Ret.plain {F : Frm} (hn : F.new = false) {ρ : Rho} {H : Hp} {v : V} {d : D} (r : RelD F.K F.S H v d) : Ret F ρ H v d := by unfold Ret; rw [hn]; exact r
theorem Ret.fresh {F : Frm} (hn : F.new = true) {B : List Addr} {A : Nat → Addr} {σ : L2.St} {ρ : Rho} {H : Hp} {p : Addr} {d : D} (E : Ev F B A σ H ρ) (h0 : F.H0 p = none) (hp : Av F B A ρ p) (r : RelO F.K (Av F B A ρ) H p d) : Ret F ρ H (.ref p) d := by
  have hS : ∀ a, (F.S a ∨ a = p) → Av F B A ρ a := fun a z => z.elim .inl fun z => z ▸ hp
  unfold Ret; rw [hn]
  exact ⟨p, rfl, h0, r.mono (C := fun _ => False) (Gro.refl _) hS (fun _ z => z.elim) id, fun j hj d' e => by
    obtain ⟨e', h4, h1, h2, _⟩ := E.ios j hj
    rw [e] at h4
    cases h4
    exact ((E.own j d' e).2.mono (C := fun _ => False) (Gro.refl _) hS (fun _ z => z.elim) fun _ _ => id).at_ h1.symm fun z => (h2 z).symm⟩
def Done (F : Frm) (Dn : Ends) : Out → Prop
  | .nx ρ => ∀ A σ H, Ev F [] A σ H ρ → Dn.nx σ H
  | .bk ρ => ∀ A σ H, Ev F [] A σ H ρ → Dn.bk σ H
  | .ct ρ => ∀ A σ H, Ev F [] A σ H ρ → Dn.ct σ H
  | .rt d ρ => ∀ A σ v H, Ev F [] A σ H ρ → Ret F ρ H v d → Dn.rt v H
abbrev MS := Rho → Option Out
def rdS (F : Frm) (m : MS) : TS := fun Dn σ H => ∃ A ρ out, Ev F [] A σ H ρ ∧ m ρ = some out ∧ Done F Dn out
section
variable {X : Cx} {F : Frm} {pos : Pos}
theorem PSs.mono {st : List Stmt} {t t' : TS} (h : PSs X st t) (hm : ∀ Dn σ H, t' Dn σ H → t Dn σ H) : PSs X st t' := ⟨fun pins s σ H Dn I q => h.run pins s σ H Dn I (hm Dn σ H q)⟩
def mNext : MS := fun ρ => some (.nx ρ)
def mSeq (m1 m2 : MS) : MS := fun ρ => match m1 ρ with
  | some (.nx ρ1) => m2 ρ1
  | r => r
theorem ss_nil : PSs X [] (rdS F mNext) := PSs.mono pss_nil fun Dn σ H ⟨A, ρ, out, E, hm, k⟩ => by
  cases hm
  exact k A σ H E
theorem ss_cons {st : Stmt} {rest : List Stmt} {m1 m2 : MS} (h1 : PS X st (rdS F m1)) (h2 : PSs X rest (rdS F m2)) : PSs X (st :: rest) (rdS F (mSeq m1 m2)) := PSs.mono (pss_cons h1 h2) fun Dn σ H ⟨A, ρ, out, E, hm, k⟩ => by
  unfold mSeq at hm
  split at hm
  · rename_i ρ1 e1
    exact ⟨A, ρ, .nx ρ1, E, e1, fun A' σ' H' E' => ⟨A', ρ1, out, E', hm, k⟩⟩
  · rename_i r hr
    refine ⟨A, ρ, out, E, hm, ?_⟩
    cases out with
    | nx ρ1 => exact absurd hm (hr ρ1)
    | rt d ρ1 => exact k
    | bk ρ1 => exact k
    | ct ρ1 => exact k
def mBreak : MS := fun ρ => some (.bk ρ)
def mCont : MS := fun ρ => some (.ct ρ)
def mRet (m : M D) : MS := fun ρ => (m ρ).map fun r => .rt r.1 r.2
theorem Val.out {A : Nat → Addr} {H : Hp} {ρ : Rho} {v : V} {d : D} (r : Val F [] A ρ H [] v d) : RelD F.K F.S H v d := r.plain.mono (C := fun _ => False) (Gro.refl _) (fun a z => .inl z) fun _ z => z.elim
theorem s_ret {e : Expr} {m : M D} {eff : List Nat} (h : PE X e (rd F m [] eff)) (hnw : F.new = false := by rfl) : PS X (.Return (some e) pos) (rdS F (mRet m)) := PS.mono (ps_ret h) fun Dn σ H ⟨A, ρ, out, E, hm, k⟩ => by
  unfold mRet at hm
  cases q : m ρ with
  | none => rw [q] at hm; cases hm
  | some r =>
    rw [q] at hm
    cases hm
    exact ⟨[], A, ρ, r.1, r.2, E, q, fun v H' P r' => k A σ v H' P.env (.plain hnw r'.out)⟩
def mDrop (m : M D) : MS := fun ρ => (m ρ).map fun r => .nx r.2
theorem s_expr {e : Expr} {m : M D} {dep eff : List Nat} (h : PE X e (rd F m dep eff)) (hs : swapsWith e none pos.line X.env = pure false := by rfl) : PS X (.Expr e pos) (rdS F (mDrop m)) := PS.mono (ps_expr h hs) fun Dn σ H ⟨A, ρ, out, E, hm, k⟩ => by
  unfold mDrop at hm
  cases q : m ρ with
  | none => rw [q] at hm; cases hm
  | some r =>
    rw [q] at hm
    cases hm
    exact ⟨[], A, ρ, r.1, r.2, E, q, fun v H' P r' => k A σ H' P.env⟩
def mIfS (c : M Bool) (m1 m2 : MS) : MS := fun ρ => match c ρ with
  | some (true, ρ1) => m1 ρ1
  | some (false, ρ1) => m2 ρ1
  | none => none
theorem s_if {c : Expr} {a b : List Stmt} {mc : M Bool} {eff : List Nat} {m1 m2 : MS} (hc : PT X c (rdT F mc eff)) (ha : PSs X a (rdS F m1)) (hb : PSs X b (rdS F m2)) : PS X (.If c a b pos) (rdS F (mIfS mc m1 m2)) := PS.mono (ps_if hc ha hb) fun Dn σ H ⟨A, ρ, out, E, hm, k⟩ => by
  unfold mIfS at hm
  split at hm
  · rename_i ρ1 e1
    refine ⟨[], A, ρ, true, ρ1, E, e1, fun H' P => ?_⟩
    simp only [if_true]
    exact ⟨A, ρ1, out, P.env, hm, k⟩
  · rename_i ρ1 e1
    refine ⟨[], A, ρ, false, ρ1, E, e1, fun H' P => ?_⟩
    simp only [Bool.false_eq_true, if_false]
    exact ⟨A, ρ1, out, P.env, hm, k⟩
  · cases hm
def rdG (F : Frm) (B : List Addr) (m : D → Rho → Option Rho) : TG := fun v σ H Q => ∃ A ρ d ρ', Ev F B A σ H ρ ∧ RelD F.K (Av F B A ρ) H v d ∧ m d ρ = some ρ' ∧ ∀ σ' H', Ev F B A σ' H' ρ' → Gro (fun _ => False) H H' → Q σ' H'
def gSet (i : Nat) : D → Rho → Option Rho := fun d ρ => if i < ρ.length then some (ρ.set i (some (false, d))) else none
theorem PG.mono {e : Expr} {t t' : TG} (h : PG X e t) (hm : ∀ v σ H Q, t' v σ H Q → t v σ H Q) : PG X e t' := ⟨fun pins s σ H v u Q I r q => h.run pins s σ H v u Q I r (hm v σ H Q q)⟩
theorem g_name {B : List Addr} {i : Nat} {x : Str} (hN : X.N.Nodup) (hi : X.N[i]? = some x) (hx : Loc X.env.scope x) (hio : i ∉ F.io) (hf : X.fn x = true ∨ X.env.scope.names.lookup x = some .local := by first | exact .inl rfl | exact .inr rfl | assumption) : PG X (.Name x pos) (rdG F B (gSet i)) :=
  PG.mono (pg_name hN hi hx hf) fun v σ H Q ⟨A, ρ, d, ρ', E, r, hm, k⟩ => by
    unfold gSet at hm
    split at hm
    · rename_i hl
      cases hm
      exact k _ H (E.setPlain hio hl r) (Gro.refl _)
    · cases hm
def mAsg (m : M D) (g : D → Rho → Option Rho) : MS := fun ρ => match m ρ with
  | some (d, ρ1) => (g d ρ1).map .nx
  | none => none
theorem s_asg {tg e : Expr} {m : M D} {g : D → Rho → Option Rho} {eff : List Nat} (he : PE X e (rd F m [] eff)) (hg : PG X tg (rdG F [] g)) (hs : swapsWithSole [tg] e pos.line X.env = pure false := by rfl) (hw : swappedStores [tg] e X.env = pure none := by rfl)
    (h1 : (assignEach [tg] X.env).map (·.2) = [assign tg X.env] := by rfl) : PS X (.Assign [tg] e pos) (rdS F (mAsg m g)) := PS.mono (ps_asg he hg hs hw h1) fun Dn σ H ⟨A, ρ, out, E, hm, k⟩ => by
  unfold mAsg at hm
  cases q : m ρ with
  | none => rw [q] at hm; cases hm
  | some r =>
    rw [q] at hm
    obtain ⟨d, ρ1⟩ := r
    cases q2 : g d ρ1 with
    | none => simp only [q2] at hm; cases hm
    | some ρ2 =>
      simp only [q2] at hm
      cases hm
      exact ⟨[], A, ρ, d, ρ1, E, q, fun v H' P r' => ⟨A, ρ1, d, ρ2, P.env, r'.plain, q2, fun σ' H2 E2 _ => k A σ' H2 E2⟩⟩
theorem Ev.notOw0 {F : Frm} {B : List Addr} {A : Nat → Addr} {σ : L2.St} {H : Hp} {ρ : Rho} {b : Addr} (E : Ev F B A σ H ρ) (hb : b ∈ B) : ¬ Ow A ρ b := fun ⟨i, d, h, z⟩ => by
  by_cases hi : i ∈ F.io
  · obtain ⟨e, h4, _, _, h3⟩ := E.ios i hi
    rw [h] at h4
    cases h4
    exact (h3 b z).2 hb
  · exact (E.nS i d b h z hi).2.1 hb
def rdN (F : Frm) (m : M D) (eff : List Nat) : TE := fun σ H Q => ∃ B A ρ d ρ', Ev F B A σ H ρ ∧ m ρ = some (d, ρ') ∧ ∀ p H', Post F B A σ H ρ eff H' ρ' → Ev F (p :: B) A σ H' ρ' → (p ∉ B ∧ H p = none) → RelO F.K (Av F (p :: B) A ρ') H' p d → Q (.ref p) H'
theorem Ev.writeB {B : List Addr} {A : Nat → Addr} {σ : L2.St} {H H' : Hp} {ρ : Rho} {b : Addr} (E : Ev F B A σ H ρ) (hb : b ∈ B) (g : Gro (fun a => a = b) H H') : Ev F B A σ H' ρ := by
  have hC : ∀ a, a = b → Av F B A ρ a := fun a h => .inr (.inl (h ▸ hb))
  have hA : ∀ {i : Nat} {d : D}, ρ[i]? = some (some (true, d)) → ∀ a, Pt A i d a → ¬ a = b := fun {i d} h a p z => E.notOw0 hb ⟨i, d, h, z ▸ p⟩
  exact ⟨E.len, fun i d e => let ⟨v, h1, h2⟩ := E.plain i d e; ⟨v, h1, h2.mono g (fun _ z => z) hC⟩, fun i d e => let ⟨h1, h2⟩ := E.own i d e; ⟨h1, h2.mono g (fun _ z => z) hC (hA e)⟩, E.inj, E.nS, E.ios, E.few, fun a h => g.live a (E.occ a h), fun c hc => ⟨g.live c (E.occB c hc).1, (E.occB c hc).2⟩,
    ⟨fun a o e n t => g.keep a o (E.chg.keep a o e n t) (fun z => by
      have h0 := (E.occB b hb).2.1
      rw [z, h0] at e
      cases e) t, fun P t => g.tabs P (E.chg.tabs P t), fun a n => g.live a (E.chg.live a n)⟩, fun P hP => g.tabs P (E.tabs P hP), fun r hr => (E.roots r hr).mono g (fun _ z => z) hC⟩
theorem newOut {B : List Addr} {A : Nat → Addr} {σ : L2.St} {H' : Hp} {ρ' : Rho} {p : Addr} (E' : Ev F (p :: B) A σ H' ρ') (hp : p ∉ B) : ¬ Av F B A ρ' p := fun z => by
  obtain ⟨hn, h0, hS⟩ := E'.occB p List.mem_cons_self
  rcases z with z | z | ⟨j, e, q, z⟩
  · exact hS z
  · exact hp z
  · exact E'.notOw0 List.mem_cons_self ⟨j, e, q, z⟩
theorem av_more {B : List Addr} {A : Nat → Addr} {ρ : Rho} {p : Addr} : ∀ a, Av F B A ρ a → Av F (p :: B) A ρ a := fun a z => by
  rcases z with z | z | z
  · exact .inl z
  · exact .inr (.inl (List.mem_cons_of_mem _ z))
  · exact .inr (.inr z)
theorem newFz {B : List Addr} {A : Nat → Addr} {σ : L2.St} {H H' : Hp} {ρ ρ' : Rho} {eff : List Nat} {p : Addr} {d : D} {u : HO} {od : Obj} (P : Post F B A σ H ρ eff H' ρ') (E' : Ev F (p :: B) A σ H' ρ') (hp : p ∉ B ∧ H p = none) (hd : isDc d = true) (r : RelO F.K (Av F (p :: B) A ρ') H' p d) (hu : H' p = some u) (ht : ∀ ps, u ≠ .tbl ps) :
    Post F B A σ H ρ eff (upd H' p (.frz od u)) ρ' ∧ RelD F.K (Av F B A ρ') (upd H' p (.frz od u)) (.ref p) d :=
  ⟨⟨(E'.writeB List.mem_cons_self (gro_frz hu ht (r.noCode hu))).unhide, P.gro.fresh' hp.2 (gro_frz hu ht (r.noCode hu)), P.lv⟩, r.relF hd hu (.inr (.inl List.mem_cons_self)) av_more (newOut E' hp.1)⟩
theorem x_new {e : Expr} {m : M D} {eff : List Nat} (h : PE X e (rdN F m eff)) : PE X e (rd F m [] eff) := PE.mono (pe_fz h) fun σ H Q ⟨B, A, ρ, d, ρ', E, hm, k⟩ =>
  ⟨B, A, ρ, d, ρ', E, hm, fun p H' P E' hp r => by
    cases hc : isDc d with
    | false => exact .inl (k (.ref p) H' P (.inl (r.relD hc av_more (newOut E' hp.1))))
    | true =>
      obtain ⟨u, hu, mu, ht⟩ := r.mut
      refine .inr ⟨p, u, hu, mu, fun od => ?_⟩
      obtain ⟨P', r'⟩ := newFz (od := od) P E' hp hc r hu ht
      exact k (.ref p) _ P' (.inl r')⟩
def gOwn (i : Nat) : D → Rho → Option Rho := fun d ρ => if i < ρ.length then some (ρ.set i (some (true, d))) else none
theorem s_own {i : Nat} {x : Str} {e : Expr} {m : M D} {eff : List Nat} {pos' : Pos} (hN : X.N.Nodup) (hi : X.N[i]? = some x) (hx : Loc X.env.scope x) (hio : i ∉ F.io) (he : PE X e (rdN F m eff)) (hs : swapsWith e (some (.Name x pos')) pos.line X.env = pure false := by rfl) (hf : X.fn x = true ∨ X.env.scope.names.lookup x = some .local := by first | exact .inl rfl | exact .inr rfl | assumption) :
    PS X (.Assign [.Name x pos'] e pos) (rdS F (mAsg m (gOwn i))) := PS.mono (ps_set hN hi hx he hs hf) fun Dn σ H ⟨A, ρ, out, E, hm, k⟩ => by
  unfold mAsg at hm
  cases q : m ρ with
  | none => rw [q] at hm; cases hm
  | some r =>
    rw [q] at hm
    obtain ⟨d, ρ1⟩ := r
    unfold gOwn at hm
    by_cases hl : i < ρ1.length
    · simp only [if_pos hl] at hm
      cases hm
      exact ⟨[], A, ρ, d, ρ1, E, q, fun p H' P E' hp r' => k _ _ H' (E'.setOwn hio hl r' hp.1)⟩
    · simp only [if_neg hl] at hm
      cases hm
theorem rdN_lay {B : List Addr} {A : Nat → Addr} {σ : L2.St} {H H1 : Hp} {ρ ρ1 : Rho} {eff : List Nat} {d : D} {Q : VK} (P : Post F B A σ H ρ eff H1 ρ1) (k : ∀ p H', Post F B A σ H ρ eff H' ρ1 → Ev F (p :: B) A σ H' ρ1 → (p ∉ B ∧ H p = none) → RelO F.K (Av F (p :: B) A ρ1) H' p d → Q (.ref p) H')
    {p : Addr} {H' : Hp} (hp : H1 p = none) (g : Ext H1 H') (r : RelO F.K (Av F (p :: B) A ρ1) H' p d) : Q (.ref p) H' :=
  k p H' (P.ext g) (P.env.hide hp g r.some) ⟨fun z => (P.env.occB p z).1 hp, by
    cases q : H p with
    | none => rfl
    | some o => exact absurd hp (P.gro.live p (by rw [q]; simp))⟩ r
theorem av_cons {B : List Addr} {A : Nat → Addr} {ρ : Rho} {p : Addr} : ∀ a, Av F (p :: B) A ρ a → Av F B A ρ a ∨ a = p := fun a z => by
  rcases z with z | z | z
  · exact .inl (.inl z)
  · rcases List.mem_cons.mp z with z | z
    · exact .inr z
    · exact .inl (.inr (.inl z))
  · exact .inl (.inr (.inr z))
theorem x_lstN {es : List Expr} {m : M (List D)} {eff : List Nat} (h : PE X (.List es pos) (tLst (rdA F m [] eff))) : PE X (.List es pos) (rdN F (mApp gLstD m) eff) := by
  refine PE.mono h fun σ H Q ⟨B, A, ρ, d, ρ1, E, hm, k⟩ => ?_
  obtain ⟨ds, e1, e2⟩ := mApp_some hm
  unfold gLstD at e2
  split at e2
  · rename_i hl
    cases e2
    refine ⟨B, A, ρ, ds, ρ1, E, e1, fun vs H1 P1 r1 => ?_⟩
    have r := Val.plains r1
    refine ⟨by rw [r.length]; exact hl, fun q hq => ?_⟩
    exact rdN_lay P1 k hq (Ext.new hq) ⟨vs, upd_same, (r.away hq av_cons).ext (Ext.new hq)⟩
  · cases e2
theorem x_dicN {pos : Pos} : PE X (.Dict [] [] pos) (rdN F (mC (.dict [])) []) := by
  refine PE.mono pe_dnewK fun σ H Q ⟨B, A, ρ, d, ρ1, E, hm, k⟩ => ?_
  cases hm
  exact fun q hq => rdN_lay (Post.refl E) k hq (Ext.new hq) (.inl ⟨[], upd_same, .nil⟩)
theorem c_listN (hc : X.calm = true) {K : KWd} (hK : X.kw = K := by rfl) : CallR X (.type "list") (fun xs H Q => ∃ S ds d, Paired (RR K S H) xs ds ∧ gListOf ds = some d ∧ ∀ p H', H p = none → Ext H H' → (∀ S' : Addr → Prop, (∀ a, S' a → S a ∨ a = p) → RelO K S' H' p d) → Q (.ref p) H') := by
  subst hK
  intro pins s σ H xs us Q I r ⟨S, ds, d, hr, e, k⟩
  unfold gListOf at e
  split at e
  · cases e
    obtain ⟨v, rfl, r1⟩ := prs1 hr
    obtain ⟨a, ys, rfl, h1, q1⟩ := r1.list
    exact call_list_of pins s σ H _ us Q I r ⟨a, ys, rfl, .inl h1, fun p hp => k p _ hp (Ext.new hp) fun S' hs => ⟨ys, upd_same, (q1.away hp hs).ext (Ext.new hp)⟩⟩
  · cases e
    obtain ⟨v, rfl, r1⟩ := prs1 hr
    obtain ⟨a, ys, rfl, h1, q1⟩ := r1.tuple
    exact call_list_of pins s σ H _ us Q I r ⟨a, ys, rfl, .inr h1, fun p hp => k p _ hp (Ext.new hp) fun S' hs => ⟨ys, upd_same, (q1.away hp hs).ext (Ext.new hp)⟩⟩
  · split at e
    · cases e
    rename_i hnT
    cases e
    obtain ⟨v, rfl, r1⟩ := prs1 hr
    obtain ⟨a, ys, rfl, h1, q1⟩ := r1.dict (Bool.eq_false_iff.mpr hnT)
    exact call_listD hc pins s σ H _ us Q I r ⟨a, ys, rfl, h1, fun p hp => k p _ hp (Ext.new hp) fun S' hs => ⟨_, upd_same, (q1.keys.away hp hs).ext (Ext.new hp)⟩⟩
  · cases e
theorem x_callTyN {p : Pos} {x : Str} {T : String} {e : Expr} {es : List Expr} {g : List D → Option D} {m : M (List D)} {dep eff : List Nat} (hc : CallR X (.type T) (fun xs H Q => ∃ S ds d, Paired (RR F.K S H) xs ds ∧ g ds = some d ∧ ∀ p H', H p = none → Ext H H' → (∀ S' : Addr → Prop, (∀ a, S' a → S a ∨ a = p) → RelO F.K S' H' p d) → Q (.ref p) H')) (hg : Gl X x) (hm : X.mg x = none) (hv : bootBuiltins x = some (.type T)) (ha : PA X (e :: es) (rdA F m dep eff)) (hn : x ≠ "__name__" := by decide) (hdb : (x == ("__debug__" : Str)) = false := by decide)
    (he : starEach (e :: es) X.env = (false, eval e X.env) :: starEach es X.env := by rfl) (hpl : (backTo pos (starEach es X.env)).any (·.1) = false := by rfl) : PE X (.Call (.Name x p) (e :: es) [] pos) (rdN F (mApp g m) eff) :=
  PE.mono (pe_callTy hc hg hm hv ha hn hdb he hpl) fun σ H Q ⟨B, A, ρ, d, ρ1, E, hm, k⟩ => by
    obtain ⟨ds, e1, e2⟩ := mApp_some hm
    exact ⟨B, A, ρ, ds, ρ1, E, e1, fun vs H1 P1 r1 => ⟨Av F B A ρ1, ds, d, Val.rrs P1.env r1, e2, fun p H' hp g' r => rdN_lay P1 k hp g' (r _ av_cons)⟩⟩
def mMut (i : Nat) (g : D → D → Option (D × D)) (m : M D) : M D := fun ρ => match ρ[i]? with
  | some (some (true, o)) => (match m ρ with
    | some (d, ρ1) => (match g o d with
      | some (r, o') => some (r, ρ1.set i (some (true, o')))
      | none => none)
    | none => none)
  | _ => none
theorem mMut_some {i : Nat} {g : D → D → Option (D × D)} {m : M D} {ρ ρ2 : Rho} {r : D} (h : mMut i g m ρ = some (r, ρ2)) : ∃ d ρ1 o o', ρ[i]? = some (some (true, o)) ∧ m ρ = some (d, ρ1) ∧ g o d = some (r, o') ∧ ρ2 = ρ1.set i (some (true, o')) := by
  unfold mMut at h
  split at h
  · rename_i o e2
    split at h
    · rename_i d ρ1 e1
      split at h
      · rename_i r' o' e3
        cases h
        exact ⟨d, ρ1, o, o', e2, e1, e3, rfl⟩
      · cases h
    · cases h
  · cases h
def gApp : D → D → Option (D × D)
  | .list ds, d => if ds.length < sizeLine then some (.none, .list (ds ++ [d])) else none
  | _, _ => none
theorem x_append {i : Nat} {x : Str} {e : Expr} {m : M D} {eff : List Nat} {apos cpos xp : Pos} (hN : X.N[i]? = some x) (hv : Vis X.env.scope x) (he : PE X e (rd F m [] eff)) (hne : i ∉ eff := by decide) (hK : X.kw = F.K := by rfl)
    (hd : (x == ("__debug__" : Str)) = false := by decide) (hcd : (x == ("__classdict__" : Str)) = false := by decide) 
    (hbase : attributeBase (.Name x xp) "append" X.env (eval (.Name x xp) X.env) = eval (.Name x xp) X.env := by rfl)
    (hfew : ((backTo cpos (starEach [e] X.env)).all (fun x => !x.1) && (backToKw cpos (keywordEach [] X.env)).all (fun x => x.1.isSome)
      && decide (([e] : List Expr).length + ([] : List Keyword).length + (if ([] : List Keyword).isEmpty then 0 else 1) < 30)) = true := by rfl)
    (hline : (apos.endLine == cpos.line) = true := by rfl) (hs : starEach [e] X.env = (false, eval e X.env) :: starEach [] X.env := by rfl) (hplain : (backTo cpos (starEach [] X.env)).any (·.1) = false := by rfl) :
    PE X (.Call (.Attribute (.Name x xp) "append" apos) [e] [] cpos) (rd F (mMut i gApp m) [] (eff ++ [i])) := by
  refine PE.mono (pe_bm PySem.F.plainAttrs_list PySem.F.slot_list_append PySem.F.type_list_append mt_append (pe_var hN hv hd hcd) (pa_cons he pa_nil hs) hbase hfew hline hs hplain) fun σ H Q ⟨B, A, ρ, r, ρ2, E, hm, k⟩ => ?_
  obtain ⟨d, ρ1, o, o', e2, e1, e3, rfl⟩ := mMut_some hm
  have hl : ∃ ds, o = .list ds ∧ ds.length < sizeLine ∧ r = .none ∧ o' = .list (ds ++ [d]) := by
    unfold gApp at e3
    split at e3
    · rename_i ds d'
      split at e3
      · rename_i hz
        cases e3
        exact ⟨_, rfl, hz, rfl, rfl⟩
      · cases e3
    · cases e3
  obtain ⟨ds, rfl, hz, rfl, rfl⟩ := hl
  obtain ⟨h1, xs, h2, h3⟩ := E.own i _ e2
  refine ⟨_, h1, .inl ⟨rfl, xs, SqL.of h2⟩, B, A, ρ, d, ρ1, E, e1, fun v H1 P1 r1 => ?_⟩
  have e4 : ρ1[i]? = some (some (true, .list ds)) := by rw [P1.lv.keep i hne]; exact e2
  obtain ⟨_, ys, g2, g3⟩ := P1.env.own i _ e4
  have G : Gro (fun b => b = A i) H1 (upd H1 (A i) (.lst (ys ++ [v]))) := Gro.upd g2 fun ps z => nomatch z
  have hC : ∀ a, a = A i → Av F B A ρ1 a := fun a h => .inr (.inr ⟨i, _, e4, .inl h⟩)
  refine ⟨A i, ys, v, rfl, rfl, g2, by rw [g3.length]; exact hz, ?_⟩
  exact k .non _ (P1.write e4 G ⟨_, upd_same, (g3.append (.cons r1.plain .nil)).mono G (fun _ z => z) hC⟩) (.inl .non)
def gPopAt : D → D → Option (D × D)
  | .list ds, .int i => if -(2 ^ 63) ≤ i ∧ i < 2 ^ 63 then (match seqIndex? i ds.length with
    | some k => (match ds[k]? with
      | some d => some (d, .list (ds.eraseIdx k))
      | none => none)
    | none => none) else none
  | _, _ => none
theorem RelDs.eraseIdx {K : KWd} {S : Addr → Prop} {H : Hp} : ∀ {xs : List V} {ds : List D} (i : Nat), RelDs K S H xs ds → RelDs K S H (xs.eraseIdx i) (ds.eraseIdx i)
  | _, _, _, .nil => .nil
  | _, _, 0, .cons _ t => t
  | _, _, i + 1, .cons r t => .cons r (RelDs.eraseIdx i t)
theorem x_popAt {i : Nat} {x : Str} {e : Expr} {m : M D} {dep eff : List Nat} {apos cpos xp : Pos} (hN : X.N[i]? = some x) (hv : Vis X.env.scope x) (he : PE X e (rd F m dep eff)) (hne : i ∉ eff := by decide) (hK : X.kw = F.K := by rfl)
    (hd : (x == ("__debug__" : Str)) = false := by decide) (hcd : (x == ("__classdict__" : Str)) = false := by decide)
    (hbase : attributeBase (.Name x xp) "pop" X.env (eval (.Name x xp) X.env) = eval (.Name x xp) X.env := by rfl)
    (hfew : ((backTo cpos (starEach [e] X.env)).all (fun x => !x.1) && (backToKw cpos (keywordEach [] X.env)).all (fun x => x.1.isSome)
      && decide (([e] : List Expr).length + ([] : List Keyword).length + (if ([] : List Keyword).isEmpty then 0 else 1) < 30)) = true := by rfl)
    (hline : (apos.endLine == cpos.line) = true := by rfl) (hs : starEach [e] X.env = (false, eval e X.env) :: starEach [] X.env := by rfl) (hplain : (backTo cpos (starEach [] X.env)).any (·.1) = false := by rfl) :
    PE X (.Call (.Attribute (.Name x xp) "pop" apos) [e] [] cpos) (rd F (mMut i gPopAt m) [] (eff ++ [i])) := by
  refine PE.mono (pe_bm PySem.F.plainAttrs_list PySem.F.slot_list_pop PySem.F.type_list_pop mt_popAt (pe_var hN hv hd hcd) (pa_cons he pa_nil hs) hbase hfew hline hs hplain) fun σ H Q ⟨B, A, ρ, r, ρ2, E, hm, k⟩ => ?_
  obtain ⟨d, ρ1, o, o', e2, e1, e3, rfl⟩ := mMut_some hm
  have hl : ∃ ds z j, o = .list ds ∧ d = .int z ∧ -(2 ^ 63) ≤ z ∧ z < 2 ^ 63 ∧ seqIndex? z ds.length = some j ∧ ds[j]? = some r ∧ o' = .list (ds.eraseIdx j) := by
    unfold gPopAt at e3
    split at e3
    · rename_i ds z
      split at e3
      · rename_i hz
        split at e3
        · rename_i j ej
          split at e3
          · rename_i d' ed
            cases e3
            exact ⟨ds, z, j, rfl, rfl, hz.1, hz.2, ej, ed, rfl⟩
          · cases e3
        · cases e3
      · cases e3
    · cases e3
  obtain ⟨ds, z, j, rfl, rfl, hz1, hz2, hj, hr, rfl⟩ := hl
  obtain ⟨h1, xs, h2, h3⟩ := E.own i _ e2
  refine ⟨_, h1, .inl ⟨rfl, xs, SqL.of h2⟩, B, A, ρ, .int z, ρ1, E, e1, fun v H1 P1 r1 => ?_⟩
  have e4 : ρ1[i]? = some (some (true, .list ds)) := by rw [P1.lv.keep i hne]; exact e2
  obtain ⟨_, ys, g2, g3⟩ := P1.env.own i _ e4
  obtain ⟨y, hy, ry⟩ := g3.get hr
  have G : Gro (fun b => b = A i) H1 (upd H1 (A i) (.lst (ys.eraseIdx j))) := Gro.upd g2 fun ps z => nomatch z
  have hC : ∀ a, a = A i → Av F B A ρ1 a := fun a h => .inr (.inr ⟨i, _, e4, .inl h⟩)
  have hv : v = .int z := (r1.rr P1.env).int
  subst hv
  refine ⟨A i, ys, z, j, y, rfl, rfl, g2, hz1, hz2, by rw [g3.length]; exact hj, hy, ?_⟩
  have P2 := P1.write (d' := .list (ds.eraseIdx j)) e4 G ⟨_, upd_same, (g3.eraseIdx j).mono G (fun _ z => z) hC⟩
  exact k y _ P2 (.inl (ry.mono G (fun a z => by
    rcases z with z | z | ⟨q, e', h, z⟩
    · exact .inl z
    · exact .inr (.inl z)
    · rcases own_set h with ⟨hij, hq⟩ | ⟨_, h⟩
      · cases hq
        exact .inr (.inr ⟨q, _, hij ▸ e4, .inl (z.of_not rfl)⟩)
      · exact .inr (.inr ⟨q, e', h, z⟩)) hC))
def gPut : D → D → D → Option D
  | .list ds, .int k, d => (ixN ds.length k).map fun j => .list (ds.set j d)
  | .dict kvs, kd, d => (keyD kd).bind fun k => if isT kvs = false ∧ kvs.length < sizeLine then some (.dict (dput kvs k d)) else none
  | _, _, _ => none
where dput (kvs : List (D × D)) (k : Key) (d : D) : List (D × D) := if (dget kvs k).isSome then kvs.map (fun e => if keyD e.1 = some k then (e.1, d) else e) else kvs ++ [(kD k, d)]
theorem RelKs.append {K : KWd} {S : Addr → Prop} {H : Hp} : ∀ {xs ys : List (Key × V)} {ds es : List (D × D)}, RelKs K S H xs ds → RelKs K S H ys es → RelKs K S H (xs ++ ys) (ds ++ es)
  | _, _, _, _, .nil, s => s
  | _, _, _, _, .cons r t, s => .cons r (RelKs.append t s)
theorem RelKs.mapPut {K : KWd} {S : Addr → Prop} {H : Hp} {k : Key} {v : V} {d : D} (r : RelD K S H v d) : ∀ {xs : List (Key × V)} {ds : List (D × D)}, RelKs K S H xs ds →
    RelKs K S H (xs.map fun kv => if kv.1 = k then (kv.1, v) else kv) (ds.map fun e => if keyD e.1 = some k then (e.1, d) else e)
  | _, _, .nil => .nil
  | _, _, .cons (k := k0) (v := v0) (d := d0) q t => by
    rw [List.map_cons, List.map_cons]
    have e : keyD (kD k0) = some k0 := keyD_kD k0
    by_cases h : k0 = k
    · rw [if_pos h, if_pos (by rw [e, h])]
      exact .cons r (RelKs.mapPut r t)
    · rw [if_neg h, if_neg (by rw [e]; exact fun z => h (Option.some.inj z))]
      exact .cons q (RelKs.mapPut r t)
theorem RelKs.put {K : KWd} {S : Addr → Prop} {H : Hp} {k : Key} {v : V} {d : D} (r : RelD K S H v d) {xs : List (Key × V)} {ds : List (D × D)} (q : RelKs K S H xs ds) : RelKs K S H (putK xs k v) (gPut.dput ds k d) := by
  unfold putK gPut.dput
  have e : (xs.any fun kv => decide (kv.1 = k)) = (PD.dget ds k).isSome := by
    rw [valV_any]
    rcases q.valV k with ⟨e1, e2⟩ | ⟨w, d', e1, e2, _⟩ <;> rw [e1, e2] <;> rfl
  rw [e]
  cases (PD.dget ds k).isSome with
  | true => exact RelKs.mapPut r q
  | false => exact RelKs.append q (.cons r .nil)
theorem put_ok {A : Nat → Addr} {σ : L2.St} {B : List Addr} {H : Hp} {ρ : Rho} {i : Nat} {o kd d o' : D} {kv v : V} (E : Ev F B A σ H ρ) (e : ρ[i]? = some (some (true, o))) (hg : gPut o kd d = some o') (rk : RR F.K (Av F B A ρ) H kv kd) (rv : RelD F.K (Av F B A ρ) H v d) :
    (∃ xs k j, H (A i) = some (.lst xs) ∧ kv = .int k ∧ ixN xs.length k = some j ∧ Gro (fun b => b = A i) H (upd H (A i) (.lst (xs.set j v))) ∧ RelO F.K (Av F B A ρ) (upd H (A i) (.lst (xs.set j v))) (A i) o') ∨
    ∃ kvs k, H (A i) = some (.dK kvs) ∧ kv = kV k ∧ kvs.length < sizeLine ∧ Gro (fun b => b = A i) H (upd H (A i) (.dK (putK kvs k v))) ∧ RelO F.K (Av F B A ρ) (upd H (A i) (.dK (putK kvs k v))) (A i) o' := by
  have hC : ∀ a, a = A i → Av F B A ρ a := fun a h => .inr (.inr ⟨i, _, e, .inl h⟩)
  obtain ⟨_, r⟩ := E.own i _ e
  cases o with
  | list ds =>
    obtain ⟨xs, h1, h2⟩ := r
    cases kd with
    | int k =>
      have hg : ((ixN ds.length k).map fun j => PyData.list (ds.set j d)) = some o' := hg
      cases q : ixN ds.length k with
      | none => rw [q] at hg; cases hg
      | some j =>
        rw [q] at hg
        cases hg
        have G : Gro (fun b => b = A i) H (upd H (A i) (.lst (xs.set j v))) := Gro.upd h1 fun ps z => nomatch z
        exact .inl ⟨xs, k, j, h1, rk.int, by rw [h2.length]; exact q, G, _, upd_same, (RelDs.set rv j h2).mono G (fun _ z => z) hC⟩
    | _ => cases hg
  | dict kvs =>
    have hg : ((keyD kd).bind fun k => if isT kvs = false ∧ kvs.length < sizeLine then some (PyData.dict (gPut.dput kvs k d)) else none) = some o' := hg
    cases q : keyD kd with
    | none => rw [q] at hg; cases hg
    | some k =>
      rw [q] at hg
      have e1 := keyD_some q
      have hg3 : (if isT kvs = false ∧ kvs.length < sizeLine then some (PyData.dict (gPut.dput kvs k d)) else none) = some o' := hg
      subst e1
      split at hg3
      · rename_i hz
        cases hg3
        rcases r with ⟨xs, h1, h2⟩ | ⟨_, _, hT⟩
        rotate_left
        · have := hz.1
          rw [hT.isT] at this
          cases this
        have hz := hz.2
        have G : Gro (fun b => b = A i) H (upd H (A i) (.dK (putK xs k v))) := Gro.upd h1 fun ps z => nomatch z
        exact .inr ⟨xs, k, h1, rk.key, by rw [h2.length]; exact hz, G, .inl ⟨_, upd_same, (RelKs.put rv h2).mono G (fun _ z => z) hC⟩⟩
      · cases hg3
  | _ => first | exact r.elim | cases (show (none : Option D) = some o' from hg)
theorem gPut_notB {o kd d o' : D} (h : gPut o kd d = some o') : isBg o = false := by
  cases o <;> first | rfl | cases (show (none : Option D) = some o' from h)
def mPut (i : Nat) (mk mv : M D) : MS := fun ρ => match mv ρ with
  | some (d, ρ1) => (match ρ1[i]? with
    | some (some (true, o)) => (match mk ρ1 with
      | some (kd, ρ2) => (match gPut o kd d with
        | some o' => some (.nx (ρ2.set i (some (true, o'))))
        | none => none)
      | none => none)
    | _ => none)
  | none => none
theorem s_put {i : Nat} {x : Str} {k value : Expr} {mk mv : M D} {depk effk effv : List Nat} {xp pos' : Pos} (hu : X.A.units + 1 < cLine) (hN : X.N[i]? = some x) (hv : Vis X.env.scope x) (hk : PE X k (rd F mk depk effk)) (hval : PE X value (rd F mv [] effv)) (hne : i ∉ effk := by decide)
    (hs : swapsWith value (some (.Subscript (.Name x xp) k pos')) pos.line X.env = pure false := by rfl) (hd : (x == ("__debug__" : Str)) = false := by decide) (hcd : (x == ("__classdict__" : Str)) = false := by decide) :
    PS X (.Assign [.Subscript (.Name x xp) k pos'] value pos) (rdS F (mPut i mk mv)) := by
  refine ⟨fun pins s σ H Dn I ⟨A, ρ, out, E, hm, kk⟩ => ?_⟩
  unfold mPut at hm
  split at hm
  · rename_i d ρ1 e1
    split at hm
    · rename_i o e2
      split at hm
      · rename_i kd ρ2 e3
        split at hm
        · rename_i o' e4
          cases hm
          refine wpAny_Assign_Subscript (thn (hval.run pins s σ H (fun v H1 => Post F [] A σ H ρ effv H1 ρ1 ∧ Val F [] A ρ1 H1 [] v d) I ⟨[], A, ρ, d, ρ1, E, e1, fun v H1 P r => ⟨P, r⟩⟩) fun r s1 ⟨v, H1, I1, rv, P1, r1⟩ => ?_) hs
          obtain ⟨h1, h2⟩ := P1.env.own i o e2
          refine thn ((pe_var (pos := xp) hN hv hd hcd).run pins s1 σ H1 (fun w H2 => w = .ref (A i) ∧ H2 = H1) I1 ⟨_, h1, rfl, rfl⟩) fun u s2 ⟨x, H2, I2, rx, q1, q2⟩ => ?_
          subst q1 q2
          cases rx
          refine thn (hk.run pins s2 σ H2 (fun w H3 => Post F [] A σ H2 ρ1 effk H3 ρ2 ∧ Val F [] A ρ2 H3 depk w kd) I2 ⟨[], A, ρ1, kd, ρ2, P1.env, e3, fun v H1 P r => ⟨P, r⟩⟩) fun iv s3 ⟨y, H3, I3, ry, P2, r2⟩ => ?_
          have e5 : ρ2[i]? = some (some (true, o)) := by rw [P2.lv.keep i hne]; exact e2
          have rv' := (r1.later P2.gro P2.lv (by simp)).plain
          rcases put_ok P2.env e5 e4 (r2.rr P2.env) rv' with ⟨xs, z, j, g1, g2, g3, G, R⟩ | ⟨kvs, z, g1, g2, g3, G, R⟩
          · exact thn (set_list pins s3 σ H3 (.ref (A i)) y v (.ref (A i)) iv r (fun H4 => Dn.nx σ H4) I3 rfl ry rv ⟨A i, xs, z, j, rfl, g2, g1, g3, kk A σ _ (P2.write e5 G R (gPut_notB e4)).env⟩) fun _ s4 ⟨H4, I4, q⟩ => ⟨σ, H4, I4, q⟩
          · subst g2
            exact d_setItem hu I3 (.inl ⟨kvs, z, g1, rfl, g3, rfl⟩) ry rv fun s4 I4 => ⟨σ, _, I4, kk A σ _ (P2.write e5 G R (gPut_notB e4)).env⟩
        · cases hm
      · cases hm
    · cases hm
  · cases hm
def mAug (i : Nat) (g : D → D → Option D) (m : M D) : MS := fun ρ => match ρ[i]? with
  | some (some (false, x)) => (match m ρ with
    | some (d, ρ1) => (match g x d with
      | some r => if i < ρ1.length then some (.nx (ρ1.set i (some (false, r)))) else none
      | none => none)
    | none => none)
  | _ => none
def gAddI : D → D → Option D
  | .int a, .int b => some (.int (a + b))
  | _, _ => none
def gSubI : D → D → Option D
  | .int a, .int b => some (.int (a - b))
  | _, _ => none
def rip (K : KWd) (g : D → D → Option D) : TIp := fun x y H Q => ∃ S d1 d2 d, RR K S H x d1 ∧ RR K S H y d2 ∧ g d1 d2 = some d ∧ ∀ v, (∀ S', RelD K S' H v d) → Q v H
theorem i_sub {K : KWd} : PIp X .Sub (rip K gSubI) := by
  intro pins s σ H x y v u Q I rx ry ⟨S, d1, d2, d, r1, r2, e, k⟩
  unfold gSubI at e
  split at e
  · cases e
    exact ip_sub pins s σ H x y v u Q I rx ry ⟨_, _, r1.int, r2.int, k _ fun _ => .int _⟩
  · cases e
theorem s_aug {i : Nat} {x : Str} {e : Expr} {m : M D} {dep eff : List Nat} {op : Operator} {g : D → D → Option D} {pos' : Pos} (hN : X.N.Nodup) (hi : X.N[i]? = some x) (hx : Loc X.env.scope x) (hio : i ∉ F.io) (he : PE X e (rd F m dep eff)) (ho : PIp X op (rip F.K g)) (hne : i ∉ eff := by decide) (hf : X.fn x = true ∨ X.env.scope.names.lookup x = some .local := by first | exact .inl rfl | exact .inr rfl | assumption) :
    PS X (.AugAssign (.Name x pos') op e pos) (rdS F (mAug i g m)) := PS.mono (ps_aug hN hi hx he ho hf) fun Dn σ H ⟨A, ρ, out, E, hm, k⟩ => by
  unfold mAug at hm
  split at hm
  · rename_i x0 e0
    split at hm
    · rename_i d ρ1 e1
      split at hm
      · rename_i r e2
        split at hm
        · rename_i hl
          cases hm
          obtain ⟨w, h1, h2⟩ := E.plain i _ e0
          refine ⟨w, h1, [], A, ρ, d, ρ1, E, e1, fun v H1 P r1 => ?_⟩
          have r0 := (Val.later (dep := []) (.inl h2) P.gro P.lv (by simp)).plain
          exact ⟨Av F [] A ρ1, x0, d, r, .inl r0, r1.rr P.env, e2, fun z hz => k A _ H1 (P.env.setPlain hio hl (hz _))⟩
        · cases hm
      · cases hm
    · cases hm
  · cases hm
end
end PD
set_option Elab.async false
set_option linter.all false
set_option maxRecDepth 100000
set_option maxHeartbeats 2000000
namespace PD
open PySem PySem.Spec PyProof.Rows L2 GxR GenX
abbrev Frm.more (F : Frm) (G : List Rt) : Frm := { F with G := G ++ F.G }
section
variable {F : Frm} {B : List Addr} {A : Nat → Addr} {σ : L2.St} {H H' : Hp} {ρ : Rho} {G : List Rt}
theorem Ev.less (E : Ev (F.more G) B A σ H ρ) : Ev F B A σ H ρ := ⟨E.len, E.plain, E.own, E.inj, E.nS, E.ios, E.few, E.occ, E.occB, E.chg, E.tabs, fun r hr => E.roots r (List.mem_append_right _ hr)⟩
theorem Ev.more (E : Ev F B A σ H ρ) (h : ∀ r ∈ G, RelG F.K (Av F B A ρ) H r) : Ev (F.more G) B A σ H ρ := ⟨E.len, E.plain, E.own, E.inj, E.nS, E.ios, E.few, E.occ, E.occB, E.chg, E.tabs, fun r hr => (List.mem_append.mp hr).elim (h r) (E.roots r)⟩
theorem Ev.rootsG (E : Ev (F.more G) B A σ H ρ) : ∀ r ∈ G, RelG F.K (Av F B A ρ) H r := fun r hr => E.roots r (List.mem_append_left _ hr)
theorem Post.less {eff : List Nat} {ρ' : Rho} {H0 : Hp} {ρ0 : Rho} (P : Post (F.more G) B A σ H ρ eff H' ρ') : Post F B A σ H ρ eff H' ρ' := ⟨P.env.less, P.gro, P.lv⟩
end
structure ItOk (K : KWd) (J : It) (ds : List D) (G : List Rt) : Prop where
  goes : ∀ i S H, (∀ r ∈ G, RelG K S H r) → i < ds.length → J.go i H
  stops : ∀ S H, (∀ r ∈ G, RelG K S H r) → J.stop ds.length H
  yields : ∀ i S H x H', (∀ r ∈ G, RelG K S H r) → (∀ a, S a → H a ≠ none) → i < ds.length → J.yld i H x H' → Ext H H' ∧ ∃ d, ds[i]? = some d ∧ RelD K S H' x d
def rdI (F : Frm) (m : M (List D)) (eff : List Nat) : TI := fun σ H R => ∃ B A ρ ds ρ', Ev F B A σ H ρ ∧ m ρ = some (ds, ρ') ∧ ∀ J G H', Post F B A σ H ρ eff H' ρ' → (∀ r ∈ G, RelG F.K (Av F B A ρ') H' r) → ItOk F.K J ds G → R J H'
section
variable {K : KWd}
theorem it_list {a : Addr} {ds : List D} : ItOk K (Itl K a) ds [.inl (.ref a, .list ds)] := by
  have h : ∀ S H, RelD K S H (.ref a) (.list ds) → ∃ xs, SqL K H a xs ∧ RelDs K S H xs ds := fun S H r => by
    obtain ⟨b, xs, e, q, rr⟩ := RR.list (.inl r)
    cases e
    exact ⟨xs, q, rr⟩
  refine ⟨fun i S H r hi => ?_, fun S H r => ?_, fun i S H x H' r _ hi y => ?_⟩
  · obtain ⟨xs, q, rr⟩ := h S H (r _ List.mem_cons_self)
    have hl := rr.length
    exact ⟨xs, xs[i]'(by omega), q, by simp [show i < xs.length by omega]⟩
  · obtain ⟨xs, q, rr⟩ := h S H (r _ List.mem_cons_self)
    exact ⟨xs, q, Nat.le_of_eq rr.length⟩
  · obtain ⟨xs, q, rr⟩ := h S H (r _ List.mem_cons_self)
    obtain ⟨e, y⟩ := y
    subst e
    obtain ⟨d, e1, e2⟩ := rr.getV (y xs q)
    exact ⟨Ext.refl _, d, e1, e2⟩
theorem it_tup {a : Addr} {ds : List D} : ItOk K (Itt K a) ds [.inl (.ref a, .tuple ds)] := by
  have h : ∀ S H, RelD K S H (.ref a) (.tuple ds) → ∃ xs, SqT K H a xs ∧ RelDs K S H xs ds := fun S H r => by
    obtain ⟨b, xs, e, q, rr⟩ := RR.tuple (.inl r)
    cases e
    exact ⟨xs, q, rr⟩
  refine ⟨fun i S H r hi => ?_, fun S H r => ?_, fun i S H x H' r _ hi y => ?_⟩
  · obtain ⟨xs, q, rr⟩ := h S H (r _ List.mem_cons_self)
    have hl := rr.length
    exact ⟨xs, xs[i]'(by omega), q, by simp [show i < xs.length by omega]⟩
  · obtain ⟨xs, q, rr⟩ := h S H (r _ List.mem_cons_self)
    exact ⟨xs, q, Nat.le_of_eq rr.length⟩
  · obtain ⟨xs, q, rr⟩ := h S H (r _ List.mem_cons_self)
    obtain ⟨e, y⟩ := y
    subst e
    obtain ⟨d, e1, e2⟩ := rr.getV (y xs q)
    exact ⟨Ext.refl _, d, e1, e2⟩
def rangeD (lo : Int) (n : Nat) : List D := (List.range n).map fun i => .int (lo + (i : Nat))
theorem rangeD_len (lo : Int) (n : Nat) : (rangeD lo n).length = n := by unfold rangeD; simp
theorem rangeD_get {lo : Int} {n i : Nat} (h : i < n) : (rangeD lo n)[i]? = some (.int (lo + (i : Nat))) := by unfold rangeD; simp [h]
theorem it_rng {lo : Int} {n : Nat} : ItOk K (Itr lo n) (rangeD lo n) [] := by
  refine ⟨fun i S H r hi => by rw [rangeD_len] at hi; exact hi, fun S H r => by rw [rangeD_len]; exact Nat.le_refl _, fun i S H x H' r _ hi y => ?_⟩
  rw [rangeD_len] at hi
  obtain ⟨e, y⟩ := y
  subst e y
  exact ⟨Ext.refl _, _, rangeD_get hi, .int _⟩
end
section
variable {X : Cx} {F : Frm} {pos p : Pos} {tg : Expr}
theorem PI.mono {e : Expr} {t t' : TI} (h : PI X tg e t) (hm : ∀ σ H R, t' σ H R → t σ H R) : PI X tg e t' := ⟨fun pins s σ H R I q => h.run pins s σ H R I (hm σ H R q)⟩
def gItems : D → Option (List D)
  | .list ds => some ds
  | .tuple ds => some ds
  | _ => none
def mItems (m : M D) : M (List D) := fun ρ => match m ρ with
  | some (d, ρ1) => (match gItems d with
    | some ds => some (ds, ρ1)
    | none => none)
  | none => none
theorem w_seq {e : Expr} {m : M D} {eff : List Nat} (he : PE X e (rd F m [] eff)) (hK : X.kw = F.K := by rfl) : PI X tg e (rdI F (mItems m) eff) := by
  refine ⟨fun pins s σ H R I ⟨B, A, ρ, ds, ρ', E, hm, k⟩ => ?_⟩
  unfold mItems at hm
  split at hm
  · rename_i d ρ1 e1
    split at hm
    · rename_i ds' e2
      cases hm
      cases d with
      | list ds0 =>
        cases e2
        refine (pi_list he).run pins s σ H R I ⟨B, A, ρ, .list ds, ρ', E, e1, fun v H' P r => ?_⟩
        have r' := r.plain
        obtain ⟨a, xs, rfl, h1, h2⟩ := RR.list (.inl r')
        exact ⟨a, rfl, ⟨xs, by rw [hK.kwK]; exact h1⟩, by rw [hK.kwK]; exact k _ [.inl (.ref a, .list ds)] H' P (fun r hr => by rw [List.mem_singleton.mp hr]; exact r') it_list⟩
      | tuple ds0 =>
        cases e2
        refine (pi_tup he).run pins s σ H R I ⟨B, A, ρ, .tuple ds, ρ', E, e1, fun v H' P r => ?_⟩
        have r' := r.plain
        obtain ⟨a, xs, rfl, h1, h2⟩ := RR.tuple (.inl r')
        exact ⟨a, rfl, ⟨xs, by rw [hK.kwK]; exact h1⟩, by rw [hK.kwK]; exact k _ [.inl (.ref a, .tuple ds)] H' P (fun r hr => by rw [List.mem_singleton.mp hr]; exact r') it_tup⟩
      | _ => cases e2
    · cases hm
  · cases hm
def gRange1 : List D → Option (List D)
  | [.int n] => if -(2 ^ 62) ≤ n ∧ n < 2 ^ 62 then some (rangeD 0 n.toNat) else none
  | _ => none
def gRange2 : List D → Option (List D)
  | [.int a, .int b] => if -(2 ^ 62) ≤ a ∧ a < 2 ^ 62 ∧ -(2 ^ 62) ≤ b ∧ b < 2 ^ 62 then some (rangeD a (b - a).toNat) else none
  | _ => none
def mRange (g : List D → Option (List D)) (m : M (List D)) : M (List D) := fun ρ => match m ρ with
  | some (ds, ρ1) => (match g ds with
    | some r => some (r, ρ1)
    | none => none)
  | none => none
theorem mRange_some {g : List D → Option (List D)} {m : M (List D)} {ρ ρ' : Rho} {ds : List D} (hm : mRange g m ρ = some (ds, ρ')) : ∃ l, m ρ = some (l, ρ') ∧ g l = some ds := by
  unfold mRange at hm
  split at hm
  · rename_i l ρ1 q
    split at hm
    · rename_i r q2
      cases hm
      exact ⟨l, q, q2⟩
    · cases hm
  · cases hm
theorem w_range1 {a : Expr} {m : M (List D)} {dep eff : List Nat} (hg : Gl X "range") (hm : X.mg "range" = none) (ha : PA X [a] (rdA F m dep eff)) (hs : starEach [a] X.env = [(false, eval a X.env)] := by rfl) : PI X tg (.Call (.Name "range" p) [a] [] pos) (rdI F (mRange gRange1 m) eff) := by
  refine PI.mono (pi_range1 hg hm ha hs) fun σ H R ⟨B, A, ρ, ds, ρ', E, hm, k⟩ => ?_
  obtain ⟨l, q, q2⟩ := mRange_some hm
  refine ⟨B, A, ρ, l, ρ', E, q, fun vs H1 P1 r1 => ?_⟩
  have rs := Val.rrs P1.env r1
  unfold gRange1 at q2
  split at q2
  · rename_i n
    split at q2
    · rename_i hz
      cases q2
      obtain ⟨v, rfl, r2⟩ := prs1 rs
      exact ⟨n, by rw [r2.int], hz.1, hz.2, k _ [] H1 P1 (fun r hr => absurd hr (by simp)) it_rng⟩
    · cases q2
  · cases q2
theorem w_range2 {a b : Expr} {m : M (List D)} {dep eff : List Nat} (hg : Gl X "range") (hm : X.mg "range" = none) (ha : PA X [a, b] (rdA F m dep eff)) (hs : starEach [a, b] X.env = [(false, eval a X.env), (false, eval b X.env)] := by rfl) (hs2 : starEach [b] X.env = [(false, eval b X.env)] := by rfl) : PI X tg (.Call (.Name "range" p) [a, b] [] pos) (rdI F (mRange gRange2 m) eff) := by
  refine PI.mono (pi_range2 hg hm ha hs hs2) fun σ H R ⟨B, A, ρ, ds, ρ', E, hm, k⟩ => ?_
  obtain ⟨l, q, q2⟩ := mRange_some hm
  refine ⟨B, A, ρ, l, ρ', E, q, fun vs H1 P1 r1 => ?_⟩
  have rs := Val.rrs P1.env r1
  unfold gRange2 at q2
  split at q2
  · rename_i i j
    split at q2
    · rename_i hz
      cases q2
      obtain ⟨v, w, rfl, r2, r3⟩ := prs2 rs
      exact ⟨i, j, by rw [r2.int, r3.int], hz, k _ [] H1 P1 (fun r hr => absurd hr (by simp)) it_rng⟩
    · cases q2
  · cases q2
def mForL (g : D → Rho → Option Rho) (mb : MS) : List D → MS
  | [] => fun ρ => some (.nx ρ)
  | d :: r => fun ρ => match g d ρ with
    | none => none
    | some ρ1 => (match mb ρ1 with
      | some (.nx ρ2) => mForL g mb r ρ2
      | some (.ct ρ2) => mForL g mb r ρ2
      | some (.bk ρ2) => some (.nx ρ2)
      | some (.rt v ρ2) => some (.rt v ρ2)
      | none => none)
def mFor (mi : M (List D)) (g : D → Rho → Option Rho) (mb : MS) : MS := fun ρ => match mi ρ with
  | some (ds, ρ1) => mForL g mb ds ρ1
  | none => none
theorem drop_cons' {α : Type} {l : List α} {i : Nat} {d : α} (h : l[i]? = some d) : l.drop i = d :: l.drop (i + 1) := by
  obtain ⟨hi, e⟩ := List.getElem?_eq_some_iff.mp h
  rw [List.drop_eq_getElem_cons hi, e]
def gE (F : Frm) (B : List Addr) (g : D → Rho → Option Rho) : TG := fun v σ H Q => ∃ G, rdG (F.more G) B g v σ H Q
def sE (F : Frm) (m : MS) : TS := fun Dn σ H => ∃ G, rdS (F.more G) m Dn σ H
theorem PG.ex {B : List Addr} {g : D → Rho → Option Rho} (h : ∀ G, PG X tg (rdG (F.more G) B g)) : PG X tg (gE F B g) := ⟨fun pins s σ H v u Q I r ⟨G, q⟩ => (h G).run pins s σ H v u Q I r q⟩
theorem PSs.ex {st : List Stmt} {m : MS} (h : ∀ G, PSs X st (rdS (F.more G) m)) : PSs X st (sE F m) := ⟨fun pins s σ H Dn I ⟨G, q⟩ => (h G).run pins s σ H Dn I q⟩
theorem s_for {iter : Expr} {body : List Stmt} {mi : M (List D)} {eff : List Nat} {g : D → Rho → Option Rho} {mb : MS} (hp : PassesOwn (model X.prog X.w) X.A X.env X.xe) (hc : X.calm = true) (hi : PI X tg iter (rdI F mi eff))
    (hg : ∀ G, PG X tg (rdG (F.more G) [] g)) (hb : ∀ G, PSs X body (rdS (F.more G) mb)) (hs : ∀ x, foldedSetIterable iter X.env x = pure x := by intro _; rfl) : PS X (.For tg iter body [] pos) (rdS F (mFor mi g mb)) := by
  refine PS.mono (ps_for hp hc hi (PG.ex hg) (PSs.ex hb) hs) fun Dn σ H ⟨A, ρ, out, E, hm, k⟩ => ?_
  unfold mFor at hm
  split at hm
  · rename_i ds ρ1 e1
    refine ⟨[], A, ρ, ds, ρ1, E, e1, fun J G H1 P1 hG it => ?_⟩
    refine ⟨fun i m σ H => m = ds.length - i ∧ i ≤ ds.length ∧ ∃ A ρ out, Ev (F.more G) [] A σ H ρ ∧ mForL g mb (ds.drop i) ρ = some out ∧ Done F Dn out, ⟨ds.length, by simp, Nat.zero_le _, A, ρ1, out, P1.env.more hG, by rw [List.drop_zero]; exact hm, k⟩, ?_⟩
    rintro i m σ H ⟨rfl, hi, A, ρ, out, E, hm, k⟩
    by_cases hlt : i < ds.length
    · refine .inr ⟨it.goes i _ H E.rootsG hlt, fun σ' H' => ∃ A ρ out, Ev (F.more G) [] A σ' H' ρ ∧ mForL g mb (ds.drop (i + 1)) ρ = some out ∧ Done F Dn out, fun σ' H' q => ⟨ds.length - (i + 1), by omega, rfl, hlt, q⟩, fun x H' y => ?_⟩
      obtain ⟨ext, d, ed, rd⟩ := it.yields i _ H x H' E.rootsG E.less.occA hlt y
      rw [drop_cons' ed] at hm
      unfold mForL at hm
      split at hm
      · cases hm
      · rename_i ρ2 e2
        refine ⟨G, A, ρ, d, ρ2, E.ext ext, rd, e2, fun σ2 H2 E2 _ => ?_⟩
        split at hm
        · rename_i ρ3 e3
          exact ⟨G, A, ρ2, .nx ρ3, E2, e3, fun A' σ' H' E' => ⟨A', ρ3, out, E', hm, k⟩⟩
        · rename_i ρ3 e3
          exact ⟨G, A, ρ2, .ct ρ3, E2, e3, fun A' σ' H' E' => ⟨A', ρ3, out, E', hm, k⟩⟩
        · rename_i ρ3 e3
          cases hm
          exact ⟨G, A, ρ2, .bk ρ3, E2, e3, fun A' σ' H' E' => k A' σ' H' E'.less⟩
        · rename_i v ρ3 e3
          cases hm
          exact ⟨G, A, ρ2, .rt v ρ3, E2, e3, fun A' σ' w H' E' r => k A' σ' w H' E'.less r⟩
        · cases hm
    · have e : i = ds.length := by omega
      subst e
      rw [List.drop_length] at hm
      cases hm
      exact .inl ⟨it.stops _ H E.rootsG, k A σ H E.less⟩
  · cases hm
def wipeR (ρ : Rho) : List Nat → Rho
  | [] => ρ
  | v :: vs => (wipeR ρ vs).set v none
theorem wipeR_length (ρ : Rho) : ∀ vs, (wipeR ρ vs).length = ρ.length
  | [] => rfl
  | v :: vs => by unfold wipeR; rw [List.length_set, wipeR_length ρ vs]
theorem wipeR_some {ρ : Rho} {i : Nat} {z : Bool × D} : ∀ {vs : List Nat}, (wipeR ρ vs)[i]? = some (some z) → ρ[i]? = some (some z) ∧ i ∉ vs
  | [], h => ⟨h, by simp⟩
  | v :: vs, h => by
    unfold wipeR at h
    rw [get_set] at h
    by_cases hi : v = i
    · rw [if_pos hi] at h
      split at h <;> cases h
    · rw [if_neg hi] at h
      obtain ⟨h1, h2⟩ := wipeR_some h
      exact ⟨h1, by simp only [List.mem_cons, not_or]; exact ⟨fun e => hi e.symm, h2⟩⟩
theorem wipeR_ne {ρ : Rho} {i : Nat} : ∀ {vs : List Nat}, i ∉ vs → (wipeR ρ vs)[i]? = ρ[i]?
  | [], _ => rfl
  | v :: vs, h => by
    unfold wipeR
    rw [get_set, if_neg (fun e => h (by rw [e]; simp))]
    exact wipeR_ne fun z => h (List.mem_cons_of_mem _ z)
theorem wipe_ne {σ : L2.St} {i : Nat} : ∀ {vs : List Nat}, i ∉ vs → (wipe σ vs)[i]? = σ[i]?
  | [], _ => rfl
  | v :: vs, h => by
    unfold wipe
    rw [List.getElem?_set, if_neg (fun e => h (by rw [e]; simp))]
    exact wipe_ne fun z => h (List.mem_cons_of_mem _ z)
theorem Ev.wipe {B : List Addr} {A : Nat → Addr} {σ σ' : L2.St} {H : Hp} {ρ : Rho} {vs : List Nat} (E : Ev F B A σ H ρ) (hl : σ'.length = σ.length) (hσ : ∀ i, i ∉ vs → σ'[i]? = σ[i]?) (hv : ∀ i ∈ vs, i ∉ F.io) : Ev F B A σ' H (wipeR ρ vs) := by
  have hav : ∀ a, Av F B A (wipeR ρ vs) a → Av F B A ρ a := fun a h => by
    rcases h with h | h | ⟨j, e, h, z⟩
    · exact .inl h
    · exact .inr (.inl h)
    · exact .inr (.inr ⟨j, e, (wipeR_some h).1, z⟩)
  refine ⟨by rw [wipeR_length, hl]; exact E.len, fun i d h => ?_, fun i d h => ?_, fun i j d e a h1 h2 => E.inj i j d e a (wipeR_some h1).1 (wipeR_some h2).1, fun i d a h => E.nS i d a (wipeR_some h).1, fun i hi => ?_, by rw [wipeR_length]; exact E.few, E.occ, E.occB, E.chg, E.tabs, fun r hr => (E.roots r hr).mono (C := fun _ => False) (Gro.refl _) hav fun _ z => z.elim⟩
  · obtain ⟨h1, h2⟩ := wipeR_some h
    obtain ⟨v, g1, g2⟩ := E.plain i d h1
    exact ⟨v, by rw [hσ i h2]; exact g1, g2.mono (C := fun _ => False) (Gro.refl _) hav fun _ z => z.elim⟩
  · obtain ⟨h1, h2⟩ := wipeR_some h
    obtain ⟨g1, g2⟩ := E.own i d h1
    exact ⟨by rw [hσ i h2]; exact g1, g2.mono (C := fun _ => False) (Gro.refl _) hav (fun _ z => z.elim) fun _ _ => id⟩
  · obtain ⟨e, h4, h1⟩ := E.ios i hi
    exact ⟨e, by rw [wipeR_ne (fun z => hv i z hi)]; exact h4, h1⟩
theorem wipe_in {σ : L2.St} {i : Nat} : ∀ {vs : List Nat}, i ∈ vs → (L2.wipe σ vs)[i]? = if i < σ.length then some none else none
  | v :: vs, h => by
    unfold L2.wipe
    rw [List.getElem?_set, wipe_length]
    by_cases hv : v = i
    · subst hv
      rw [if_pos rfl]
    · rw [if_neg hv]
      exact wipe_in ((List.mem_cons.mp h).resolve_left fun e => hv e.symm)
theorem wipe_set {σ : L2.St} {i : Nat} {z : Option V} {vs : List Nat} (h : i ∈ vs) : L2.wipe (σ.set i z) vs = L2.wipe σ vs := by
  apply List.ext_getElem?
  intro j
  by_cases hj : j ∈ vs
  · rw [wipe_in hj, wipe_in hj, List.length_set]
  · rw [wipe_ne hj, wipe_ne hj, List.getElem?_set, if_neg (show ¬ i = j from fun e => hj (e ▸ h))]
def rdW (F : Frm) (vs : List Nat) (m : D → Rho → Option Rho) : TG := fun v σ H Q => ∃ B A ρ d ρ', Ev F B A σ H ρ ∧ RelD F.K (Av F B A ρ) H v d ∧ m d ρ = some ρ' ∧ ∀ σ' H', Ev F B A σ' H' ρ' → Gro (fun _ => False) H H' → L2.wipe σ' vs = L2.wipe σ vs → Lv vs ρ ρ' → Q σ' H'
theorem gSet_lv {i : Nat} {vs : List Nat} (h : i ∈ vs) {d : D} {ρ ρ' : Rho} (e : gSet i d ρ = some ρ') : Lv vs ρ ρ' := by
  unfold gSet at e
  split at e
  · cases e
    refine ⟨fun j hj => by rw [get_set, if_neg (show ¬ i = j from fun z => hj (z ▸ h))], fun j e' q => ?_⟩
    rcases own_set q with ⟨_, q⟩ | ⟨_, q⟩
    · cases q
    · exact ⟨e', q, id⟩
  · cases e
theorem g_nameW {i : Nat} {x : Str} {vs : List Nat} (hN : X.N.Nodup) (hi : X.N[i]? = some x) (hx : Loc X.env.scope x) (hio : i ∉ F.io) (hvs : i ∈ vs := by decide) (hf : X.fn x = true ∨ X.env.scope.names.lookup x = some .local := by first | exact .inl rfl | exact .inr rfl | assumption) : PG X (.Name x pos) (rdW F vs (gSet i)) :=
  PG.mono (pg_name hN hi hx hf) fun v σ H Q ⟨B, A, ρ, d, ρ', E, r, hm, k⟩ => by
    have L := gSet_lv hvs hm
    unfold gSet at hm
    split at hm
    · rename_i hl
      cases hm
      exact k _ H (E.setPlain hio hl r) (Gro.refl _) (wipe_set hvs) L
    · cases hm
def mYes : M Bool := fun ρ => some (true, ρ)
theorem PTs.mono {ifs : List Expr} {t t' : TT} (h : PTs X ifs t) (hm : ∀ σ H Q, t' σ H Q → t σ H Q) : PTs X ifs t' := ⟨fun pins s σ H Q I q => h.run pins s σ H Q I (hm σ H Q q)⟩
theorem ts_nil : PTs X [] (rdT F mYes []) := PTs.mono pts_nil fun σ H Q ⟨B, A, ρ, b, ρ', E, hm, k⟩ => by
  cases hm
  exact k H (Post.refl E)
theorem ts_one {c : Expr} {m : M Bool} {eff : List Nat} (h : PT X c (rdT F m eff)) : PTs X [c] (rdT F m eff) := pts_one h
def lcL (g : D → Rho → Option Rho) (mt : M Bool) (me : M D) (vs : List Nat) : List D → List D → Rho → Option (List D × Rho)
  | [], acc, ρ => some (acc, ρ)
  | d :: r, acc, ρ => match g d ρ with
    | none => none
    | some ρ1 => (match mt ρ1 with
      | some (true, ρ2) => (match me ρ2 with
        | some (y, ρ3) => if acc.length < sizeLine then lcL g mt me vs r (acc ++ [y]) (wipeR ρ3 vs) else none
        | none => none)
      | some (false, ρ2) => lcL g mt me vs r acc (wipeR ρ2 vs)
      | none => none)
def mLc (mi : M (List D)) (g : D → Rho → Option Rho) (mt : M Bool) (me : M D) (vs : List Nat) : M D := fun ρ => match mi ρ with
  | some (ds, ρ1) => (match lcL g mt me vs ds [] (wipeR ρ1 vs) with
    | some (acc, ρ2) => some (.list acc, wipeR ρ2 vs)
    | none => none)
  | none => none
def wE (F : Frm) (vs : List Nat) (g : D → Rho → Option Rho) : TG := fun v σ H Q => ∃ G, rdW (F.more G) vs g v σ H Q
def tE (F : Frm) (m : M Bool) (eff : List Nat) : TT := fun σ H Q => ∃ G, rdT (F.more G) m eff σ H Q
def eE (F : Frm) (m : M D) (dep eff : List Nat) : TE := fun σ H Q => ∃ G, rd (F.more G) m dep eff σ H Q
theorem PG.exW {vs : List Nat} {g : D → Rho → Option Rho} (h : ∀ G, PG X tg (rdW (F.more G) vs g)) : PG X tg (wE F vs g) := ⟨fun pins s σ H v u Q I r ⟨G, q⟩ => (h G).run pins s σ H v u Q I r q⟩
theorem PTs.ex {ifs : List Expr} {m : M Bool} {eff : List Nat} (h : ∀ G, PTs X ifs (rdT (F.more G) m eff)) : PTs X ifs (tE F m eff) := ⟨fun pins s σ H Q I ⟨G, q⟩ => (h G).run pins s σ H Q I q⟩
theorem PE.ex {e : Expr} {m : M D} {dep eff : List Nat} (h : ∀ G, PE X e (rd (F.more G) m dep eff)) : PE X e (eE F m dep eff) := ⟨fun pins s σ H Q I ⟨G, q⟩ => (h G).run pins s σ H Q I q⟩
theorem wipeR_lv {ρ : Rho} {vs : List Nat} : Lv vs ρ (wipeR ρ vs) := ⟨fun i hi => wipeR_ne hi, fun i d h => ⟨d, (wipeR_some h).1, id⟩⟩
theorem Lv.more {e1 e2 : List Nat} {ρ ρ' : Rho} (h : Lv e1 ρ ρ') (hs : ∀ i ∈ e1, i ∈ e2) : Lv e2 ρ ρ' := ⟨fun i hi => h.keep i fun z => hi (hs i z), h.own⟩
theorem Lv.trans' {e : List Nat} {ρ ρ1 ρ2 : Rho} (a : Lv e ρ ρ1) (b : Lv e ρ1 ρ2) : Lv e ρ ρ2 := (a.trans b).more fun i hi => (List.mem_append.mp hi).elim id id
theorem wipe_wipe {σ : L2.St} {vs : List Nat} : L2.wipe (L2.wipe σ vs) vs = L2.wipe σ vs := by
  apply List.ext_getElem?
  intro j
  by_cases hj : j ∈ vs
  · rw [wipe_in hj, wipe_in hj, wipe_length]
  · rw [wipe_ne hj]
theorem Ev.notOw {B : List Addr} {A : Nat → Addr} {σ : L2.St} {H : Hp} {ρ : Rho} {b : Addr} (E : Ev F B A σ H ρ) (hb : b ∈ B) : ¬ Ow A ρ b := E.notOw0 hb
theorem Gro.fresh {C : Addr → Prop} {H H1 H2 : Hp} {b : Addr} (g : Gro C H H1) (hb : H b = none) (w : Gro (fun a => a = b) H1 H2) : Gro C H H2 :=
  ⟨fun a o e n t => w.keep a o (g.keep a o e n t) (fun z => by rw [z, hb] at e; cases e) t, fun P t => w.tabs P (g.tabs P t), fun a n => w.live a (g.live a n)⟩
theorem Gro.back {C : Addr → Prop} {H H1 : Hp} {b : Addr} (g : Gro C H H1) (hb : H1 b = none) : H b = none := by
  cases q : H b with
  | none => rfl
  | some o => exact absurd hb (g.live b (by rw [q]; simp))
theorem wipeR_av {B : List Addr} {A : Nat → Addr} {ρ : Rho} {vs : List Nat} : ∀ a, Av F B A (wipeR ρ vs) a → Av F B A ρ a := fun a z => (wipeR_lv (vs := vs)).av z
theorem rd_lc {mi : M (List D)} {g : D → Rho → Option Rho} {mt : M Bool} {me : M D} {effi efft effe vs : List Nat} (hv : ∀ i ∈ vs, i ∉ F.io) {σ : L2.St} {H : Hp} {Q : VK} (h : rdN F (mLc mi g mt me vs) (effi ++ (vs ++ (efft ++ effe))) σ H Q) :
    tLc (rdI F mi effi) (wE F vs g) (tE F mt efft) (eE F me [] effe) vs σ H Q := by
  obtain ⟨B, A, ρ, d, ρ', E, hm, k⟩ := h
  unfold mLc at hm
  split at hm
  · rename_i ds ρ1 e1
    split at hm
    · rename_i res ρ2 e2
      cases hm
      refine ⟨B, A, ρ, ds, ρ1, E, e1, fun J G H1 P1 hG it D hD => ?_⟩
      have Elay : Ev F (D :: B) A σ (upd H1 D (.lst [])) ρ1 := P1.env.hide hD (Ext.new hD) (by rw [upd_same]; simp)
      have ew : ∀ i, i ∉ vs → (L2.wipe σ vs)[i]? = σ[i]? := fun i h => wipe_ne h
      have E0 : Ev (F.more G) (D :: B) A (L2.wipe σ vs) (upd H1 D (.lst [])) (wipeR ρ1 vs) := by
        refine Ev.more ((Elay).wipe (wipe_length σ vs) ew hv) fun r hr => ?_
        refine ((hG r hr).away hD av_cons).ext (Ext.new hD) |>.mono (C := fun _ => False) (Gro.refl _) (fun a z => ?_) fun _ z => z.elim
        rcases z with z | z | ⟨j, e, h, z⟩
        · exact .inl z
        · exact .inr (.inl z)
        · exact .inr (.inr ⟨j, e, (wipeR_some h).1, z⟩)
      refine ⟨fun i m Hc => m = ds.length - i ∧ i ≤ ds.length ∧ ∃ acc xs ρc, Ev (F.more G) (D :: B) A (L2.wipe σ vs) Hc ρc ∧ Hc D = some (.lst xs) ∧ RelDs F.K (Av F (D :: B) A ρc) Hc xs acc ∧ Gro (Ow A ρ) H Hc ∧ Lv (effi ++ (vs ++ (efft ++ effe))) ρ ρc ∧ lcL g mt me vs (ds.drop i) acc ρc = some (res, ρ2),
        ⟨ds.length, by simp, Nat.zero_le _, [], [], wipeR ρ1 vs, E0, upd_same, .nil, P1.gro.trans (Ext.new hD).gro, (P1.lv.more fun i h => List.mem_append_left _ h).trans' (wipeR_lv.more fun i h => List.mem_append_right _ (List.mem_append_left _ h)), by rw [List.drop_zero]; exact e2⟩, ?_⟩
      rintro i m Hc ⟨rfl, hi, acc, xs, ρc, Ec, hDc, rc, gc, lc, hm⟩
      by_cases hlt : i < ds.length
      · refine .inr ⟨it.goes i _ Hc Ec.rootsG hlt, fun H' => ∃ acc xs ρc, Ev (F.more G) (D :: B) A (L2.wipe σ vs) H' ρc ∧ H' D = some (.lst xs) ∧ RelDs F.K (Av F (D :: B) A ρc) H' xs acc ∧ Gro (Ow A ρ) H H' ∧ Lv (effi ++ (vs ++ (efft ++ effe))) ρ ρc ∧ lcL g mt me vs (ds.drop (i + 1)) acc ρc = some (res, ρ2), fun H' q => ⟨ds.length - (i + 1), by omega, rfl, hlt, q⟩, fun x H' y => ?_⟩
        obtain ⟨ext, d, ed, rd⟩ := it.yields i _ Hc x H' Ec.rootsG Ec.less.occA hlt y
        rw [drop_cons' ed] at hm
        unfold lcL at hm
        split at hm
        · cases hm
        · rename_i ρg eg
          refine ⟨G, D :: B, A, ρc, d, ρg, Ec.ext ext, rd, eg, fun σ2 H2 E2 g2 hw l2 => ⟨by rw [hw, wipe_wipe], ?_⟩⟩
          have hw2 : L2.wipe σ2 vs = L2.wipe σ vs := by rw [hw, wipe_wipe]
          have hD0 : H D = none := P1.gro.back hD
          have hD2 : H2 D = some (.lst xs) := g2.keep _ _ (ext _ _ hDc) (fun z => z) fun ps z => nomatch z
          have ow1 : ∀ a, Ow A ρg a → Ow A ρ a := fun a z => lc.ow (l2.ow z)
          have gro2 : Gro (Ow A ρ) H H2 := gc.trans ((ext.gro).trans (g2.mono fun _ z => z.elim))
          have av1 : ∀ a, Av F (D :: B) A ρg a → Av F (D :: B) A ρc a := fun a z => l2.av z
          have rc2 : RelDs F.K (Av F (D :: B) A ρg) H2 xs acc := ((rc.ext ext).mono g2 (fun a z => z) fun _ z => z.elim).mono (C := fun _ => False) (Gro.refl _) av1 fun _ z => z.elim
          have lg : Lv (effi ++ (vs ++ (efft ++ effe))) ρ ρg := lc.trans' (l2.more fun i h => List.mem_append_right _ (List.mem_append_left _ h))
          split at hm
          · rename_i ρt et
            refine ⟨G, D :: B, A, ρg, true, ρt, E2, et, fun H3 P3 => ?_⟩
            simp only [if_true]
            have hD3 : H3 D = some (.lst xs) := P3.gro.keep _ _ hD2 (E2.notOw List.mem_cons_self) fun ps z => nomatch z
            have rc3 : RelDs F.K (Av F (D :: B) A ρt) H3 xs acc := rc2.mono P3.gro (fun a z => P3.lv.av z) fun a z => .inr (.inr z)
            have lt : Lv (effi ++ (vs ++ (efft ++ effe))) ρ ρt := lg.trans' (P3.lv.more fun i h => List.mem_append_right _ (List.mem_append_right _ (List.mem_append_left _ h)))
            split at hm
            · rename_i yd ρe ee
              split at hm
              · rename_i hz
                refine ⟨G, D :: B, A, ρt, yd, ρe, P3.env, ee, fun yv H4 P4 r4 => ?_⟩
                have hD4 : H4 D = some (.lst xs) := P4.gro.keep _ _ hD3 (P3.env.notOw List.mem_cons_self) fun ps z => nomatch z
                have rc4 : RelDs F.K (Av F (D :: B) A ρe) H4 xs acc := rc3.mono P4.gro (fun a z => P4.lv.av z) fun a z => .inr (.inr z)
                have W : Gro (fun a => a = D) H4 (upd H4 D (.lst (xs ++ [yv]))) := Gro.upd hD4 fun ps z => nomatch z
                have le : Lv (effi ++ (vs ++ (efft ++ effe))) ρ ρe := lt.trans' (P4.lv.more fun i h => List.mem_append_right _ (List.mem_append_right _ (List.mem_append_right _ h)))
                refine ⟨xs, hD4, by rw [rc4.length]; exact hz, acc ++ [yd], xs ++ [yv], wipeR ρe vs, ?_, upd_same, ?_, ?_, le.trans' (wipeR_lv.more fun i h => List.mem_append_right _ (List.mem_append_left _ h)), hm⟩
                · have E5 := (P4.env.writeB List.mem_cons_self W).wipe (σ' := L2.wipe σ2 vs) (vs := vs) (wipe_length _ _) (fun i h => wipe_ne h) hv
                  rw [hw2] at E5
                  exact E5
                · refine RelDs.append ?_ (.cons ?_ .nil)
                  · exact rc4.mono W (fun a z => wipeR_av a z) fun a z => .inr (.inl (z ▸ List.mem_cons_self))
                  · exact r4.plain.mono W (fun a z => wipeR_av (F := F) a z) fun a z => .inr (.inl (z ▸ List.mem_cons_self))
                · exact Gro.fresh (gro2.trans ((P3.gro.mono ow1).trans (P4.gro.mono fun a z => ow1 a (P3.lv.ow z)))) hD0 W
              · cases hm
            · cases hm
          · rename_i ρt et
            refine ⟨G, D :: B, A, ρg, false, ρt, E2, et, fun H3 P3 => ?_⟩
            simp only [Bool.false_eq_true, if_false]
            have hD3 : H3 D = some (.lst xs) := P3.gro.keep _ _ hD2 (E2.notOw List.mem_cons_self) fun ps z => nomatch z
            have rc3 : RelDs F.K (Av F (D :: B) A ρt) H3 xs acc := rc2.mono P3.gro (fun a z => P3.lv.av z) fun a z => .inr (.inr z)
            have lt : Lv (effi ++ (vs ++ (efft ++ effe))) ρ ρt := lg.trans' (P3.lv.more fun i h => List.mem_append_right _ (List.mem_append_right _ (List.mem_append_left _ h)))
            refine ⟨acc, xs, wipeR ρt vs, ?_, hD3, ?_, gro2.trans (P3.gro.mono ow1), lt.trans' (wipeR_lv.more fun i h => List.mem_append_right _ (List.mem_append_left _ h)), hm⟩
            · have E5 := P3.env.wipe (σ' := L2.wipe σ2 vs) (vs := vs) (wipe_length _ _) (fun i h => wipe_ne h) hv
              rw [hw2] at E5
              exact E5
            · exact rc3.mono (C := fun _ => False) (Gro.refl _) (fun a z => wipeR_av a z) fun _ z => z.elim
          · cases hm
      · have e : i = ds.length := by omega
        subst e
        rw [List.drop_length] at hm
        cases hm
        have Eb : Ev F (D :: B) A σ Hc (wipeR ρ2 vs) := Ec.less.wipe (wipe_length σ vs).symm (fun i h => (wipe_ne h).symm) hv
        exact .inl ⟨it.stops _ Hc Ec.rootsG, k D Hc ⟨Eb.unhide, gc, lc.trans' (wipeR_lv.more fun i h => List.mem_append_right _ (List.mem_append_left _ h))⟩ Eb ⟨fun z => (P1.env.occB D z).1 hD, P1.gro.back hD⟩ ⟨xs, hDc, rc.mono (C := fun _ => False) (Gro.refl _) (fun a z => wipeR_av a z) fun _ z => z.elim⟩⟩
    · cases hm
  · cases hm
theorem x_lc {elt iter : Expr} {ifs : List Expr} {scope : Scope} {own : List (Str × Nat)} {mi : M (List D)} {g : D → Rho → Option Rho} {mt : M Bool} {me : M D} {effi efft effe : List Nat} (hc : X.calm = true) (hN : X.N.Nodup) (hi : PI X tg iter (rdI F mi effi)) (ok : BlkOk X.N X.env.scope scope own)
    (hg : ∀ (s : Shared) (H : Hp) (C : Addr) (cl : List (Str × Addr)) (fp : List Addr) G, PG (X.blk s H scope (compEnvC scope cl C X.env) fp) tg (rdW (F.more G) (own.map (·.2)) g))
    (ht : ∀ (s : Shared) (H : Hp) (C : Addr) (cl : List (Str × Addr)) (fp : List Addr) G, PTs (X.blk s H scope (compEnvC scope cl C X.env) fp) ifs (rdT (F.more G) mt efft))
    (he : ∀ (s : Shared) (H : Hp) (C : Addr) (cl : List (Str × Addr)) (fp : List Addr) G, PE (X.blk s H scope (compEnvC scope cl C X.env) fp) elt (rd (F.more G) me [] effe))
    (hv : ∀ i ∈ own.map (·.2), i ∉ F.io := by decide) (hs : ∀ x, foldedSetIterable iter X.env x = pure x := by intro _; rfl) :
    PE X (.ListComp elt [⟨tg, iter, ifs, 0⟩] scope pos) (rdN F (mLc mi g mt me (own.map (·.2))) (effi ++ (own.map (·.2) ++ (efft ++ effe)))) :=
  PE.mono (pe_lc hc hN hi ok (fun s H C cl fp => PG.exW (hg s H C cl fp)) (fun s H C cl fp => PTs.ex (ht s H C cl fp)) (fun s H C cl fp => PE.ex (he s H C cl fp)) hs) fun σ H Q h => rd_lc hv h
end
end PD
set_option Elab.async false
set_option linter.all false
set_option maxRecDepth 100000
set_option maxHeartbeats 2000000
namespace PD
open PySem PySem.Spec PyProof.Rows L2 GxR GenX
def anL (k : Bool) (g : D → Rho → Option Rho) (mt : M Bool) (me : M D) (vs : List Nat) : List D → Rho → Option (Bool × Rho)
  | [], ρ => some (!k, ρ)
  | d :: r, ρ => match g d ρ with
    | none => none
    | some ρ1 => (match mt ρ1 with
      | some (true, ρ2) => (match me ρ2 with
        | some (.bool c, ρ3) => if c = k then some (k, wipeR ρ3 vs) else anL k g mt me vs r (wipeR ρ3 vs)
        | _ => none)
      | some (false, ρ2) => anL k g mt me vs r (wipeR ρ2 vs)
      | none => none)
def mAn (k : Bool) (mi : M (List D)) (g : D → Rho → Option Rho) (mt : M Bool) (me : M D) (vs : List Nat) : M D := fun ρ => match mi ρ with
  | some (ds, ρ1) => (match anL k g mt me vs ds (wipeR ρ1 vs) with
    | some (b, ρ2) => some (.bool b, wipeR ρ2 vs)
    | none => none)
  | none => none
instance (z : Int) : Decidable (InLong z) := inferInstanceAs (Decidable (_ ∧ _))
def suL (g : D → Rho → Option Rho) (mt : M Bool) (me : M D) (vs : List Nat) : List D → Int → Rho → Option (Int × Rho)
  | [], acc, ρ => some (acc, ρ)
  | d :: r, acc, ρ => match g d ρ with
    | none => none
    | some ρ1 => (match mt ρ1 with
      | some (true, ρ2) => (match me ρ2 with
        | some (.int z, ρ3) => if InLong z ∧ InLong (acc + z) then suL g mt me vs r (acc + z) (wipeR ρ3 vs) else none
        | _ => none)
      | some (false, ρ2) => suL g mt me vs r acc (wipeR ρ2 vs)
      | none => none)
def mSu (mi : M (List D)) (g : D → Rho → Option Rho) (mt : M Bool) (me : M D) (vs : List Nat) : M D := fun ρ => match mi ρ with
  | some (ds, ρ1) => (match suL g mt me vs ds 0 (wipeR ρ1 vs) with
    | some (z, ρ2) => some (.int z, wipeR ρ2 vs)
    | none => none)
  | none => none
section
variable {X : Cx} {F : Frm} {pos p gpos : Pos} {tg : Expr}
section
variable {c P : Addr} {elt iter : Expr} {ifs : List Expr} {scope : Scope} {own : List (Str × Nat)} {mi : M (List D)} {g : D → Rho → Option Rho} {mt : M Bool} {me : M D} {effi efft effe : List Nat} {k : Nat}
end
end
end PD
set_option Elab.async false
set_option linter.all false
set_option maxRecDepth 100000
set_option maxHeartbeats 2000000
namespace PD
open PySem PySem.Spec PyProof.Rows L2 GxR GenX
structure ArgsOk (K : KWd) (S : Addr → Prop) (io : List Nat) (A0 : Nat → Addr) (H : Hp) (vs : List V) (ds : List D) : Prop where
  len : vs.length = ds.length
  at_ : ∀ (j : Nat) (v : V) (d : D), vs[j]? = some v → ds[j]? = some d → (j ∈ io → v = .ref (A0 j) ∧ Own K S H A0 j d) ∧ (j ∉ io → RelD K S H v d)
  ioS : ∀ j ∈ io, ∃ d, ds[j]? = some d ∧ ∀ a, Pt A0 j d a → S a
  inj : ∀ i ∈ io, ∀ j ∈ io, ∀ d e a, ds[i]? = some d → ds[j]? = some e → Pt A0 i d a → Pt A0 j e a → i = j
def spD (K : KWd) (T : List Addr) (io : List Nat) (n : Nat) (f : List D → Option (D × List D)) : Sp := fun vs H Q _ => ∃ S A0 ds r ds', f ds = some (r, ds') ∧ ds.length = n ∧ ds'.length = n ∧ ArgsOk K S io A0 H vs ds ∧ (∀ a, S a → H a ≠ none) ∧ (∀ P ∈ T, TabN H P) ∧
  ∀ v H', Gro (fun a => ∃ j ∈ io, a = A0 j ∨ a = A0 (j + 1000)) H H' → (∀ j ∈ io, ∀ d', ds'[j]? = some d' → Own K S H' A0 j d') → RelD K S H' v r → Q v H'
theorem spD_len {K : KWd} {T : List Addr} {io : List Nat} {n : Nat} {f : List D → Option (D × List D)} (vs : List V) (H : Hp) (Q : VK) (E : XK) (h : spD K T io n f vs H Q E) : vs.length = n := by
  obtain ⟨S, A0, ds, r, ds', _, h1, _, h2, _⟩ := h
  rw [h2.len, h1]
def ioR (io : List Nat) : Nat → List D → Rho
  | _, [] => []
  | j, d :: ds => some (decide (j ∈ io), d) :: ioR io (j + 1) ds
def startR (io : List Nat) (n : Nat) (ds : List D) : Rho := ioR io 0 ds ++ List.replicate (n - ds.length) none
def backR (ρ : Rho) (n : Nat) : List D := (List.range n).map fun j => match ρ[j]? with
  | some (some (_, d)) => d
  | _ => .none
def runD (n : Nat) (io : List Nat) (mb : MS) (ds : List D) : Option (D × List D) := match mb (startR io n ds) with
  | some (.rt d ρ) => some (d, backR ρ ds.length)
  | some (.nx ρ) => some (.none, backR ρ ds.length)
  | _ => none
theorem ioR_get {io : List Nat} : ∀ {ds : List D} {j i : Nat}, (ioR io j ds)[i]? = (ds[i]?).map fun d => some (decide (j + i ∈ io), d)
  | [], _, _ => by simp [ioR]
  | d :: ds, j, 0 => by simp [ioR]
  | d :: ds, j, i + 1 => by
    unfold ioR
    rw [List.getElem?_cons_succ, ioR_get, List.getElem?_cons_succ]
    have : j + 1 + i = j + (i + 1) := by omega
    rw [this]
theorem ioR_len {io : List Nat} : ∀ {ds : List D} {j : Nat}, (ioR io j ds).length = ds.length
  | [], _ => rfl
  | _ :: _, _ => congrArg (· + 1) ioR_len
theorem startR_some {io : List Nat} {n i : Nat} {ds : List D} {b : Bool} {d : D} (h : (startR io n ds)[i]? = some (some (b, d))) : ds[i]? = some d ∧ b = decide (i ∈ io) := by
  unfold startR at h
  by_cases hi : i < ds.length
  · rw [List.getElem?_append_left (by rw [ioR_len]; exact hi), ioR_get, Nat.zero_add] at h
    cases q : ds[i]? with
    | none => rw [q] at h; cases h
    | some e =>
      rw [q] at h
      cases h
      exact ⟨rfl, rfl⟩
  · rw [List.getElem?_append_right (by rw [ioR_len]; omega), List.getElem?_replicate] at h
    split at h <;> cases h
theorem startR_at {io : List Nat} {n i : Nat} {ds : List D} {d : D} (h : ds[i]? = some d) : (startR io n ds)[i]? = some (some (decide (i ∈ io), d)) := by
  have hi : i < ds.length := (List.getElem?_eq_some_iff.mp h).1
  unfold startR
  rw [List.getElem?_append_left (by rw [ioR_len]; exact hi), ioR_get, Nat.zero_add, h]
  rfl
theorem start_at {N : List Str} {vs : List V} {i : Nat} {v : V} (h : vs[i]? = some v) : (L2.start N vs)[i]? = some (some v) := by
  have hi : i < vs.length := (List.getElem?_eq_some_iff.mp h).1
  unfold L2.start
  rw [List.getElem?_append_left (by simpa using hi), List.getElem?_map, h]
  rfl
theorem ev_start {K : KWd} {S : Addr → Prop} {io : List Nat} {T : List Addr} {A0 : Nat → Addr} {H : Hp} {vs : List V} {ds : List D} {N : List Str} (h : ArgsOk K S io A0 H vs ds) (occ : ∀ a, S a → H a ≠ none) (tabs : ∀ P ∈ T, TabN H P) (hf : (startR io N.length ds).length ≤ 1000) (nw : Bool := false) :
    Ev ⟨K, S, io, T, H, A0, [], nw⟩ [] A0 (L2.start N vs) H (startR io N.length ds) := by
  have hS : ∀ a, Av ⟨K, S, io, T, H, A0, [], nw⟩ [] A0 (startR io N.length ds) a → S a := fun a z => by
    rcases z with z | z | ⟨i, d, e, z⟩
    · exact z
    · cases z
    · obtain ⟨e1, hb⟩ := startR_some e
      obtain ⟨d', e2, h2⟩ := h.ioS i (of_decide_eq_true hb.symm)
      rw [e1] at e2
      cases e2
      exact h2 a z
  have vat : ∀ {i : Nat} {d : D}, ds[i]? = some d → ∃ v, vs[i]? = some v := fun {i d} e => by
    have hi : i < vs.length := by rw [h.len]; exact (List.getElem?_eq_some_iff.mp e).1
    exact ⟨vs[i], by simp [hi]⟩
  refine ⟨?_, fun i d e => ?_, fun i d e => ?_, fun i j d e a h1 h2 z1 z2 => ?_, fun i d a e z hi => ?_, fun i hi => ?_, hf, occ, fun b hb => absurd hb (by simp), Gro.refl _, tabs, fun r hr => absurd hr (by simp)⟩
  · unfold startR L2.start
    rw [List.length_append, List.length_append, ioR_len, List.length_replicate, List.length_replicate, List.length_map, h.len]
  · obtain ⟨e1, hb⟩ := startR_some e
    obtain ⟨v, ev⟩ := vat e1
    exact ⟨v, start_at ev, ((h.at_ i v d ev e1).2 (of_decide_eq_false hb.symm)).mono (C := fun _ => False) (Gro.refl _) hS fun _ z => z.elim⟩
  · obtain ⟨e1, hb⟩ := startR_some e
    obtain ⟨v, ev⟩ := vat e1
    obtain ⟨g1, g2⟩ := (h.at_ i v d ev e1).1 (of_decide_eq_true hb.symm)
    exact ⟨by rw [← g1]; exact start_at ev, g2.mono (C := fun _ => False) (Gro.refl _) hS (fun _ z => z.elim) fun _ _ => id⟩
  · exact h.inj i (of_decide_eq_true (startR_some h1).2.symm) j (of_decide_eq_true (startR_some h2).2.symm) d e a (startR_some h1).1 (startR_some h2).1 z1 z2
  · exact absurd (of_decide_eq_true (startR_some e).2.symm) hi
  · obtain ⟨d, e1, hs⟩ := h.ioS i hi
    refine ⟨d, ?_, rfl, fun _ => rfl, fun a z => ⟨hs a z, by simp⟩⟩
    rw [startR_at e1]
    rw [decide_eq_true (show i ∈ io from hi)]
structure FunC (K : PySem.W.Frag) (x qual : Str) (st : Stmt) (f : Addr) (fd : FuncData) (c : Addr) : Prop where
  ex : ∃ (oc : Value) (od : Option Addr) (kV doc pm : Value) (an : Option Addr) (ct : Value) (osl : Array (Option Value)),
    fd = PySem.W.fnOf x qual (defArgs st) (defBody st) (defScope st) .none kV doc pm an (.ref c) ct ∧ K.lookup f = some ⟨oc, od, .func fd, osl⟩ ∧ PySem.W.codeIn K (.ref c) qual = true
theorem back_get {ρ : Rho} {n j : Nat} {d : D} (h : (backR ρ n)[j]? = some d) (hb : ∃ b e, ρ[j]? = some (some (b, e))) : ∃ b, ρ[j]? = some (some (b, d)) := by
  unfold backR at h
  obtain ⟨b, e, q⟩ := hb
  have hj : j < n := by
    have := (List.getElem?_eq_some_iff.mp h).1
    simpa using this
  rw [List.getElem?_map, List.getElem?_range hj] at h
  simp only [Option.map_some, q, Option.some.injEq] at h
  exact ⟨b, by rw [q, h]⟩
section
variable {P : Program} {w : World} {K : PySem.W.Frag} {mg : Str → Option Value} {base : Heap}
theorem okD {x qual : Str} {st : Stmt} {f c : Addr} {fd : FuncData} {N ps : List Str} {k : Nat} {T : List Addr} {io : List Nat} {mb : MS} (F : FunC K x qual st f fd c) (Sc : FnScope N ps (defScope st))
    (hbody : ∀ (A : Around) (outer : List Env) (s : Shared) (H : Hp) (E : XK) (S : Addr → Prop) (A0 : Nat → Addr), Room k (A.deeper (envOfC qual (defScope st) s.heap.objs.size f (.ref c))) →
      PSs (cxOf CX0 P w K mg base N qual (defScope st) f (.ref c) A outer s H E).nox (defBody st) (rdS ⟨⟨K, w⟩, S, io, T, H, A0, [], false⟩ mb)) (hN : ps.length ≤ N.length ∧ N.length ≤ 1000 := by decide) :
    FnOk P w K mg base CX0 (k + 1) f fd ps (spD ⟨K, w⟩ T io ps.length (runD N.length io mb)) := by
  obtain ⟨oc, od, kV, doc, pm, an, ct, osl, rfl, lk, hcd⟩ := F.ex
  refine fn_of lk hcd Sc spD_len fun A outer s H vs Q E hr hsp => ?_
  obtain ⟨S, A0, ds, r, ds', hfn, hn, hn', ha, occ, tabs, k⟩ := hsp
  refine ⟨_, (hbody A outer s H E S A0 hr).nox, A0, startR io N.length ds, ?_⟩
  have hf : (startR io N.length ds).length ≤ 1000 := by
    unfold startR
    rw [List.length_append, ioR_len, List.length_replicate]
    omega
  have fin : ∀ {A' : Nat → Addr} {σ' : L2.St} {H' : Hp} {ρ' : Rho}, Ev ⟨⟨K, w⟩, S, io, T, H, A0, [], false⟩ [] A' σ' H' ρ' → (∀ j ∈ io, ∀ d', (backR ρ' ds.length)[j]? = some d' → Own ⟨K, w⟩ S H' A0 j d') := fun {A' σ' H' ρ'} E' j hj d' hd => by
    obtain ⟨e, h4, h1, h2, _⟩ := E'.ios j hj
    obtain ⟨b, h5⟩ := back_get hd ⟨true, e, h4⟩
    rw [h4] at h5
    cases h5
    exact ((E'.own j d' h4).2.mono (C := fun _ => False) (Gro.refl _) (fun a z => .inl z) (fun _ z => z.elim) fun _ _ => id).at_ (show A0 j = A' j from h1.symm) fun z => (h2 z).symm
  unfold runD at hfn
  split at hfn
  · rename_i d ρ' e
    cases hfn
    exact ⟨.rt r ρ', ev_start ha occ tabs hf, e, fun A' σ' v H' E' r' => k v H' E'.chg (fin E') r'⟩
  · rename_i ρ' e
    cases hfn
    exact ⟨.nx ρ', ev_start ha occ tabs hf, e, fun A' σ' H' E' => k .non H' E'.chg (fin E') .non⟩
  · cases hfn
end
section
variable {F : Frm} {B : List Addr} {A : Nat → Addr} {σ : L2.St} {H H' : Hp} {ρ ρ' : Rho}
theorem Ev.writes (E : Ev F B A σ H ρ) {I : List Nat} (hI : ∀ i ∈ I, ∃ d : D, ρ[i]? = some (some (true, d))) (g : Gro (fun a => ∃ i ∈ I, ∃ d, ρ[i]? = some (some (true, d)) ∧ Pt A i d a) H H') (hl : ρ'.length = ρ.length) (hk : ∀ i, i ∉ I → ρ'[i]? = ρ[i]?)
    (hw : ∀ i ∈ I, ∃ d e, ρ[i]? = some (some (true, e)) ∧ (isBg d = true → isBg e = true) ∧ ρ'[i]? = some (some (true, d)) ∧ Own F.K (Av F B A ρ) H' A i d) : Post F B A σ H ρ I H' ρ' := by
  have own' : ∀ (j : Nat) (e : D), ρ'[j]? = some (some (true, e)) → ∃ e0, ρ[j]? = some (some (true, e0)) ∧ (isBg e = true → isBg e0 = true) := fun j e h => by
    by_cases hj : j ∈ I
    · obtain ⟨d, e0, q, k, q', _⟩ := hw j hj
      rw [h] at q'
      cases q'
      exact ⟨e0, q, k⟩
    · exact ⟨e, by rw [← hk j hj]; exact h, id⟩
  have pt' : ∀ {j : Nat} {e' e0 : D} {a : Addr}, (isBg e' = true → isBg e0 = true) → Pt A j e' a → Pt A j e0 a := fun h z => z.imp h
  have hC : ∀ a, (∃ i ∈ I, ∃ d, ρ[i]? = some (some (true, d)) ∧ Pt A i d a) → Av F B A ρ a := fun a ⟨i, hi, d, e, z⟩ => .inr (.inr ⟨i, d, e, z⟩)
  have hav : ∀ a, Av F B A ρ' a → Av F B A ρ a := fun a h => by
    rcases h with h | h | ⟨j, e', h, z⟩
    · exact .inl h
    · exact .inr (.inl h)
    · obtain ⟨e0, q, k⟩ := own' j e' h
      exact .inr (.inr ⟨j, e0, q, pt' k z⟩)
  refine ⟨⟨by rw [hl]; exact E.len, fun j e h => ?_, fun j e h => ?_, fun j k e1 e2 a h1 h2 z1 z2 => ?_, fun j e a h z hj => ?_, fun j hj => ?_, by rw [hl]; exact E.few, fun a h => g.live a (E.occ a h), fun b hb => ⟨g.live b (E.occB b hb).1, (E.occB b hb).2⟩, ⟨fun a o h n t => ?_, fun P t => g.tabs P (E.chg.tabs P t), fun a n => g.live a (E.chg.live a n)⟩, fun P hP => g.tabs P (E.tabs P hP), fun r hr => (E.roots r hr).mono g hav hC⟩,
    g.mono fun a ⟨i, hi, d, e, z⟩ => ⟨i, d, e, z⟩, ⟨hk, own'⟩⟩
  · have hj : j ∉ I := fun hj => by
      obtain ⟨d, _, _, _, q, _⟩ := hw j hj
      rw [q] at h
      cases h
    rw [hk j hj] at h
    obtain ⟨w, h1, h2⟩ := E.plain j e h
    exact ⟨w, h1, h2.mono g hav hC⟩
  · by_cases hj : j ∈ I
    · obtain ⟨d, _, _, _, q, r⟩ := hw j hj
      rw [q] at h
      cases h
      obtain ⟨d0, q0⟩ := hI j hj
      exact ⟨(E.own j d0 q0).1, r.mono (C := fun _ => False) (Gro.refl _) hav (fun _ z => z.elim) fun _ _ => id⟩
    · rw [hk j hj] at h
      obtain ⟨h1, h2⟩ := E.own j e h
      exact ⟨h1, h2.mono g hav hC fun a z1 ⟨i, hi, d0, q0, z2⟩ => hj (E.inj j i e d0 a h q0 z1 z2 ▸ hi)⟩
  · obtain ⟨f1, q1, k1⟩ := own' j e1 h1
    obtain ⟨f2, q2, k2⟩ := own' k e2 h2
    exact E.inj j k f1 f2 a q1 q2 (pt' k1 z1) (pt' k2 z2)
  · obtain ⟨f1, q1, k1⟩ := own' j e h
    exact E.nS j f1 a q1 (pt' k1 z) hj
  · obtain ⟨e', h4, h1, h2, h3⟩ := E.ios j hj
    by_cases hjI : j ∈ I
    · obtain ⟨d, e0, q0, k0, q, _⟩ := hw j hjI
      rw [h4] at q0
      cases q0
      exact ⟨d, q, h1, fun z => h2 (k0 z), fun a z => h3 a (pt' k0 z)⟩
    · exact ⟨e', by rw [hk j hjI]; exact h4, h1, h2, h3⟩
  · refine g.keep a o (E.chg.keep a o h n t) (fun ⟨i, hi, d, e, z⟩ => ?_) t
    by_cases hj : i ∈ F.io
    · obtain ⟨e', h4, h1, h2, h3⟩ := E.ios i hj
      rw [e] at h4
      cases h4
      rcases z with z | ⟨zb, z⟩
      · exact n ⟨i, hj, .inl (z.trans h1)⟩
      · exact n ⟨i, hj, .inr (z.trans (h2 zb))⟩
    · rw [(E.nS i d a e z hj).2.2] at h
      cases h
end
inductive Tagd (F : Frm) (B : List Addr) (A : Nat → Addr) (ρ : Rho) (H : Hp) : List (Option Nat) → List V → List D → Prop
  | nil : Tagd F B A ρ H [] [] []
  | plain {ts : List (Option Nat)} {v : V} {vs : List V} {d : D} {ds : List D} : RelD F.K (Av F B A ρ) H v d → Tagd F B A ρ H ts vs ds → Tagd F B A ρ H (none :: ts) (v :: vs) (d :: ds)
  | io {i : Nat} {ts : List (Option Nat)} {vs : List V} {d : D} {ds : List D} : ρ[i]? = some (some (true, d)) → Tagd F B A ρ H ts vs ds → Tagd F B A ρ H (some i :: ts) (.ref (A i) :: vs) (d :: ds)
def rdC (F : Frm) (ts : List (Option Nat)) (m : M (List D)) (eff : List Nat) : TA := fun σ H Q => ∃ B A ρ ds ρ', Ev F B A σ H ρ ∧ m ρ = some (ds, ρ') ∧ ∀ vs H', Post F B A σ H ρ eff H' ρ' → Tagd F B A ρ' H' ts vs ds → Q vs H'
def mOwn (i : Nat) : M D := fun ρ => match ρ[i]? with
  | some (some (true, d)) => if isBg d = true then none else some (d, ρ)
  | _ => none
def putBack : List (Option Nat) → List D → Rho → Rho
  | some i :: ts, d :: ds, ρ => putBack ts ds (ρ.set i (some (true, d)))
  | none :: ts, _ :: ds, ρ => putBack ts ds ρ
  | _, _, ρ => ρ
def mCall (f : List D → Option (D × List D)) (ts : List (Option Nat)) (m : M (List D)) : M D := fun ρ => match m ρ with
  | some (ds, ρ1) => (match f ds with
    | some (r, ds') => if ds'.length = ds.length then some (r, putBack ts ds' ρ1) else none
    | none => none)
  | none => none
def tagIo : List (Option Nat) → Nat → List Nat
  | [], _ => []
  | some _ :: ts, j => j :: tagIo ts (j + 1)
  | none :: ts, j => tagIo ts (j + 1)
theorem putBack_len : ∀ {ts : List (Option Nat)} {ds : List D} {ρ : Rho}, (putBack ts ds ρ).length = ρ.length
  | some i :: ts, d :: ds, ρ => by unfold putBack; rw [putBack_len, List.length_set]
  | none :: ts, _ :: ds, ρ => by unfold putBack; exact putBack_len
  | [], _, _ => by unfold putBack; rfl
  | some _ :: _, [], _ => by unfold putBack; rfl
  | none :: _, [], _ => by unfold putBack; rfl
theorem putBack_ne {i : Nat} : ∀ {ts : List (Option Nat)} {ds : List D} {ρ : Rho}, i ∉ ts.filterMap id → (putBack ts ds ρ)[i]? = ρ[i]?
  | some j :: ts, d :: ds, ρ, h => by
    have h1 : i ≠ j ∧ i ∉ ts.filterMap id := by simpa using h
    unfold putBack
    rw [putBack_ne h1.2, get_set, if_neg (Ne.symm h1.1)]
  | none :: ts, _ :: ds, ρ, h => by
    have h1 : i ∉ ts.filterMap id := by simpa using h
    unfold putBack
    exact putBack_ne h1
  | [], _, _, _ => by unfold putBack; rfl
  | some _ :: _, [], _, _ => by unfold putBack; rfl
  | none :: _, [], _, _ => by unfold putBack; rfl
theorem putBack_at {i : Nat} : ∀ {ts : List (Option Nat)} {ds : List D} {ρ : Rho} {j : Nat} {d : D}, (ts.filterMap id).Nodup → ts[j]? = some (some i) → ds[j]? = some d → i < ρ.length → (putBack ts ds ρ)[i]? = some (some (true, d))
  | some k :: ts, d0 :: ds, ρ, 0, d, hn, h1, h2, hl => by
    simp only [List.getElem?_cons_zero, Option.some.injEq] at h1 h2
    subst h1 h2
    have h3 : k ∉ ts.filterMap id := by
      have : (k :: ts.filterMap id).Nodup := by simpa using hn
      exact (List.nodup_cons.mp this).1
    unfold putBack
    rw [putBack_ne h3, get_set, if_pos rfl, if_pos hl]
  | some k :: ts, d0 :: ds, ρ, j + 1, d, hn, h1, h2, hl => by
    have : (k :: ts.filterMap id).Nodup := by simpa using hn
    unfold putBack
    exact putBack_at (List.nodup_cons.mp this).2 (by simpa using h1) (by simpa using h2) (by rw [List.length_set]; exact hl)
  | none :: ts, _ :: ds, ρ, j + 1, d, hn, h1, h2, hl => by
    unfold putBack
    exact putBack_at (by simpa using hn) (by simpa using h1) (by simpa using h2) hl
  | none :: ts, _ :: ds, ρ, 0, d, hn, h1, h2, hl => by simp at h1
  | [], _, _, _, _, _, h1, _, _ => by simp at h1
  | some _ :: _, [], _, _, _, _, _, h2, _ => by simp at h2
  | none :: _, [], _, _, _, _, _, h2, _ => by simp at h2
theorem tagIo_mem : ∀ {ts : List (Option Nat)} {j k : Nat}, k ∈ tagIo ts j ↔ ∃ n i, k = j + n ∧ ts[n]? = some (some i)
  | [], j, k => by simp [tagIo]
  | some i :: ts, j, k => by
    unfold tagIo
    rw [List.mem_cons, tagIo_mem]
    constructor
    · rintro (h | ⟨n, i', h1, h2⟩)
      · exact ⟨0, i, h, rfl⟩
      · exact ⟨n + 1, i', by omega, by simpa using h2⟩
    · rintro ⟨n, i', h1, h2⟩
      cases n with
      | zero => exact .inl h1
      | succ n => exact .inr ⟨n, i', by omega, by simpa using h2⟩
  | none :: ts, j, k => by
    unfold tagIo
    rw [tagIo_mem]
    constructor
    · rintro ⟨n, i', h1, h2⟩
      exact ⟨n + 1, i', by omega, by simpa using h2⟩
    · rintro ⟨n, i', h1, h2⟩
      cases n with
      | zero => simp at h2
      | succ n => exact ⟨n, i', by omega, by simpa using h2⟩
section
variable {X : Cx} {F : Frm} {pos p : Pos}
theorem xc_nil : PA X [] (rdC F [] mNil []) := by
  refine PA.mono pa_nil fun σ H Q ⟨B, A, ρ, ds, ρ', E, hm, k⟩ => ?_
  cases hm
  exact k [] H (Post.refl E) .nil
theorem Tagd.later {B : List Addr} {A : Nat → Addr} {H : Hp} {ρ : Rho} : True := trivial
theorem xc_plain {e : Expr} {es : List Expr} {m : M D} {ms : M (List D)} {ts : List (Option Nat)} {eff1 eff2 : List Nat} (ha : PE X e (rd F m [] eff1)) (hr : PA X es (rdC F ts ms eff2))
    (hs : starEach (e :: es) X.env = (false, eval e X.env) :: starEach es X.env := by rfl) : PA X (e :: es) (rdC F (none :: ts) (mCons m ms) (eff1 ++ eff2)) := by
  refine PA.mono (pa_cons ha hr hs) fun σ H Q ⟨B, A, ρ, ds, ρ2, E, hm, k⟩ => ?_
  obtain ⟨d, ρ1, ds', e1, e2, rfl⟩ := mCons_some hm
  refine ⟨B, A, ρ, d, ρ1, E, e1, fun v1 H1 P1 r1 => ⟨B, A, ρ1, ds', ρ2, P1.env, e2, fun vs H2 P2 r2 => ?_⟩⟩
  exact k _ H2 (P1.trans P2) (.plain (r1.later P2.gro P2.lv (by simp)).plain r2)
def mConsIo (i : Nat) (ms : M (List D)) : M (List D) := fun ρ => match ρ[i]? with
  | some (some (true, _)) => (match ms ρ with
    | some (ds, ρ2) => (match ρ2[i]? with
      | some (some (true, d)) => some (d :: ds, ρ2)
      | _ => none)
    | none => none)
  | _ => none
theorem xc_io {i : Nat} {x : Str} {es : List Expr} {ms : M (List D)} {ts : List (Option Nat)} {eff2 : List Nat} (hN : X.N[i]? = some x) (hv : Vis X.env.scope x) (hr : PA X es (rdC F ts ms eff2))
    (hd : (x == ("__debug__" : Str)) = false := by decide) (hcd : (x == ("__classdict__" : Str)) = false := by decide) (hs : starEach (.Name x p :: es) X.env = (false, eval (.Name x p) X.env) :: starEach es X.env := by rfl) : PA X (.Name x p :: es) (rdC F (some i :: ts) (mConsIo i ms) eff2) := by
  refine PA.mono (pa_cons (pe_var hN hv hd hcd) hr hs) fun σ H Q ⟨B, A, ρ, ds, ρ2, E, hm, k⟩ => ?_
  unfold mConsIo at hm
  split at hm
  · rename_i d0 q0
    split at hm
    · rename_i ds' ρ3 e2
      split at hm
      · rename_i d q
        cases hm
        exact ⟨_, (E.own i d0 q0).1, B, A, _, ds', ρ2, E, e2, fun vs H2 P2 r2 => k _ H2 P2 (.io q r2)⟩
      · cases hm
    · cases hm
  · cases hm
theorem Tagd.at_ {B : List Addr} {A : Nat → Addr} {H : Hp} {ρ : Rho} : ∀ {ts : List (Option Nat)} {vs : List V} {ds : List D}, Tagd F B A ρ H ts vs ds → vs.length = ds.length ∧ ts.length = ds.length ∧ ∀ (j : Nat) (v : V) (d : D), vs[j]? = some v → ds[j]? = some d → (∀ i, ts[j]? = some (some i) → v = .ref (A i) ∧ ρ[i]? = some (some (true, d))) ∧ (ts[j]? = some none → RelD F.K (Av F B A ρ) H v d)
  | _, _, _, .nil => ⟨rfl, rfl, fun j v d h => by simp at h⟩
  | _, _, _, .plain r t => by
    obtain ⟨h1, h2, h3⟩ := Tagd.at_ t
    refine ⟨congrArg (· + 1) h1, congrArg (· + 1) h2, fun j v d a b => ?_⟩
    cases j with
    | zero =>
      simp only [List.getElem?_cons_zero, Option.some.injEq] at a b
      subst a b
      exact ⟨fun i h => by simp at h, fun _ => r⟩
    | succ j => exact h3 j v d (by simpa using a) (by simpa using b) |>.imp (fun h i q => h i (by simpa using q)) fun h q => h (by simpa using q)
  | _, _, _, .io q t => by
    obtain ⟨h1, h2, h3⟩ := Tagd.at_ t
    refine ⟨congrArg (· + 1) h1, congrArg (· + 1) h2, fun j v d a b => ?_⟩
    cases j with
    | zero =>
      simp only [List.getElem?_cons_zero, Option.some.injEq] at a b
      subst a b
      exact ⟨fun i h => by
        simp only [List.getElem?_cons_zero, Option.some.injEq] at h
        subst h
        exact ⟨rfl, q⟩, fun h => by simp at h⟩
    | succ j => exact h3 j v d (by simpa using a) (by simpa using b) |>.imp (fun h i q => h i (by simpa using q)) fun h q => h (by simpa using q)
def tagN (A : Nat → Addr) (ts : List (Option Nat)) (ds : List D) (j : Nat) : Addr := if j < 1000 then (match ts[j]? with
  | some (some i) => A i
  | _ => 0) else match ts[j - 1000]?, ds[j - 1000]? with
  | some (some i), some d => if isBg d = true then A (i + 1000) else A i
  | _, _ => 0
theorem tagN_1 {A : Nat → Addr} {ts : List (Option Nat)} {ds : List D} {j i : Nat} (hl : ts.length ≤ 1000) (h : ts[j]? = some (some i)) : tagN A ts ds j = A i := by
  have hj := (List.getElem?_eq_some_iff.mp h).1
  unfold tagN
  rw [if_pos (by omega), h]
theorem tagN_2 {A : Nat → Addr} {ts : List (Option Nat)} {ds : List D} {j i : Nat} {d : D} (h : ts[j]? = some (some i)) (hd : ds[j]? = some d) : tagN A ts ds (j + 1000) = if isBg d = true then A (i + 1000) else A i := by
  unfold tagN
  rw [if_neg (by omega), Nat.add_sub_cancel, h, hd]
theorem tagN_pt {A : Nat → Addr} {ts : List (Option Nat)} {ds : List D} {j i : Nat} {d : D} {a : Addr} (hl : ts.length ≤ 1000) (h : ts[j]? = some (some i)) (hd : ds[j]? = some d) (p : a = tagN A ts ds j ∨ a = tagN A ts ds (j + 1000)) : Pt A i d a := by
  rw [tagN_1 hl h, tagN_2 h hd] at p
  rcases p with p | p
  · exact .inl p
  · split at p
    · rename_i hb
      exact .inr ⟨hb, p⟩
    · exact .inl p
theorem tagN_own {K : KWd} {S : Addr → Prop} {H : Hp} {A : Nat → Addr} {ts : List (Option Nat)} {ds : List D} {j i : Nat} {d : D} (hl : ts.length ≤ 1000) (h : ts[j]? = some (some i)) (hd : ds[j]? = some d) (r : Own K S H A i d) : Own K S H (tagN A ts ds) j d :=
  r.at_ (tagN_1 hl h) fun hb => by rw [tagN_2 h hd, if_pos hb]
theorem tagN_back {K : KWd} {S : Addr → Prop} {H : Hp} {A : Nat → Addr} {ts : List (Option Nat)} {ds : List D} {j i : Nat} {d d' : D} (hl : ts.length ≤ 1000) (h : ts[j]? = some (some i)) (hd : ds[j]? = some d) (r : Own K S H (tagN A ts ds) j d') : (isBg d' = true → isBg d = true) ∧ Own K S H A i d' := by
  have k : isBg d' = true → isBg d = true := fun hb => by
    cases q : isBg d with
    | true => rfl
    | false =>
      cases d' with
      | tuple xs =>
        have r : BagAt K S H (tagN A ts ds j) (tagN A ts ds (j + 1000)) xs := r
        refine absurd ?_ r.ne
        rw [tagN_1 hl h, tagN_2 h hd, q, if_neg (by decide)]
      | _ => cases hb
  exact ⟨k, r.at_ (tagN_1 hl h).symm fun hb => by rw [tagN_2 h hd, if_pos (k hb)]⟩
theorem call_spD {f : List D → Option (D × List D)} {ts : List (Option Nat)} {n : Nat} {B : List Addr} {A : Nat → Addr} {σ : L2.St} {H H1 : Hp} {ρ ρ1 : Rho} {eff : List Nat} {ds ds' : List D} {r : D} {vs : List V} {Q : VK} {E0 : XK} (hnd : (ts.filterMap id).Nodup) (P1 : Post F B A σ H ρ eff H1 ρ1) (tg : Tagd F B A ρ1 H1 ts vs ds) (hn : ts.length = n) (hf : f ds = some (r, ds')) (hl : ds'.length = ds.length) (hts : ts.length ≤ 1000)
    (k : ∀ v H', Post F B A σ H ρ (eff ++ ts.filterMap id) H' (putBack ts ds' ρ1) → RelD F.K (Av F B A (putBack ts ds' ρ1)) H' v r → Q v H') : spD F.K F.T (tagIo ts 0) n f vs H1 Q E0 := by
  obtain ⟨h1, h2, h3⟩ := tg.at_
  have io_ : ∀ {j : Nat}, j ∈ tagIo ts 0 → ∃ i, ts[j]? = some (some i) := fun h => by
    obtain ⟨n, i, e, q⟩ := tagIo_mem.mp h
    rw [Nat.zero_add] at e
    exact ⟨i, e ▸ q⟩
  have io' : ∀ {j i : Nat}, ts[j]? = some (some i) → j ∈ tagIo ts 0 := fun {j i} h => tagIo_mem.mpr ⟨j, i, by omega, h⟩
  have dat : ∀ {j i : Nat}, ts[j]? = some (some i) → ∃ d, ds[j]? = some d ∧ ρ1[i]? = some (some (true, d)) := fun {j i} h => by
    have hj : j < ds.length := by rw [← h2]; exact (List.getElem?_eq_some_iff.mp h).1
    have hv : j < vs.length := by omega
    exact ⟨ds[j], by simp [hj], ((h3 j vs[j] ds[j] (by simp [hv]) (by simp [hj])).1 i h).2⟩
  have memI : ∀ {i : Nat}, i ∈ ts.filterMap id → ∃ j, ts[j]? = some (some i) := fun {i} h => by
    obtain ⟨o, ho, e⟩ := List.mem_filterMap.mp h
    obtain ⟨j, hj, e2⟩ := List.getElem_of_mem ho
    refine ⟨j, ?_⟩
    rw [List.getElem?_eq_getElem hj, e2]
    exact congrArg some e
  have I' : ∀ {j i : Nat}, ts[j]? = some (some i) → i ∈ ts.filterMap id := fun {j i} h => List.mem_filterMap.mpr ⟨some i, List.mem_of_getElem? h, rfl⟩
  have hI : ∀ i ∈ ts.filterMap id, ∃ d : D, ρ1[i]? = some (some (true, d)) := fun i hi => by
    obtain ⟨j, hj⟩ := memI hi
    obtain ⟨d, _, q⟩ := dat hj
    exact ⟨d, q⟩
  refine ⟨Av F B A ρ1, tagN A ts ds, ds, r, ds', hf, by omega, by omega, ⟨h1, fun j v d a b => ⟨fun hj => ?_, fun hj => ?_⟩, fun j hj => ?_, fun a ha b hb da db x hda hdb z1 z2 => ?_⟩, P1.env.occA, P1.env.tabs, fun v H' g hio rv => ?_⟩
  · obtain ⟨i, hi⟩ := io_ hj
    obtain ⟨e1, e2⟩ := (h3 j v d a b).1 i hi
    exact ⟨by rw [tagN_1 hts hi]; exact e1, tagN_own hts hi b (P1.env.own i d e2).2⟩
  · refine (h3 j v d a b).2 ?_
    have hj2 : j < ts.length := by rw [h2]; exact (List.getElem?_eq_some_iff.mp b).1
    cases q : ts[j] with
    | none => rw [List.getElem?_eq_getElem hj2, q]
    | some i => exact absurd (io' (by rw [List.getElem?_eq_getElem hj2, q])) hj
  · obtain ⟨i, hi⟩ := io_ hj
    obtain ⟨d, e1, e2⟩ := dat hi
    exact ⟨d, e1, fun a z => .inr (.inr ⟨i, d, e2, tagN_pt hts hi e1 (Or.imp id (fun z => z.2) z)⟩)⟩
  · obtain ⟨i, hi⟩ := io_ ha
    obtain ⟨i', hi'⟩ := io_ hb
    obtain ⟨d, e1, e2⟩ := dat hi
    obtain ⟨d', e1', e2'⟩ := dat hi'
    rw [hda] at e1
    cases e1
    rw [hdb] at e1'
    cases e1'
    have e := P1.env.inj i i' da db x e2 e2' (tagN_pt hts hi hda (Or.imp id (fun z => z.2) z1)) (tagN_pt hts hi' hdb (Or.imp id (fun z => z.2) z2))
    subst e
    -- the same slot stands at one place alone
    have uniq : ∀ {ts : List (Option Nat)} {a b : Nat}, (ts.filterMap id).Nodup → ts[a]? = some (some i) → ts[b]? = some (some i) → a = b := by
      intro ts
      induction ts with
      | nil => intro a b _ h; simp at h
      | cons o ts ih =>
        intro a b hn ha hb
        cases o with
        | none =>
          have hn : (ts.filterMap id).Nodup := by simpa using hn
          cases a with
          | zero => simp at ha
          | succ a => cases b with
            | zero => simp at hb
            | succ b => exact congrArg (· + 1) (ih hn (by simpa using ha) (by simpa using hb))
        | some k =>
          have hn : (k :: ts.filterMap id).Nodup := by simpa using hn
          obtain ⟨hk, hn⟩ := List.nodup_cons.mp hn
          have no : ∀ {b : Nat}, ts[b]? = some (some k) → False := fun h => hk (List.mem_filterMap.mpr ⟨some k, List.mem_of_getElem? h, rfl⟩)
          cases a with
          | zero =>
            simp only [List.getElem?_cons_zero, Option.some.injEq] at ha
            subst ha
            cases b with
            | zero => rfl
            | succ b => exact (no (by simpa using hb)).elim
          | succ a => cases b with
            | zero =>
              simp only [List.getElem?_cons_zero, Option.some.injEq] at hb
              subst hb
              exact (no (by simpa using ha)).elim
            | succ b => exact congrArg (· + 1) (ih hn (by simpa using ha) (by simpa using hb))
    exact uniq hnd hi hi'
  · have g' : Gro (fun a => ∃ i ∈ ts.filterMap id, ∃ d, ρ1[i]? = some (some (true, d)) ∧ Pt A i d a) H1 H' := g.mono fun a ⟨j, hj, z⟩ => by
      obtain ⟨i, hi⟩ := io_ hj
      obtain ⟨d, e1, e2⟩ := dat hi
      exact ⟨i, I' hi, d, e2, tagN_pt hts hi e1 z⟩
    have P2 : Post F B A σ H1 ρ1 (ts.filterMap id) H' (putBack ts ds' ρ1) := P1.env.writes hI g' putBack_len (fun i hi => putBack_ne hi) fun i hi => by
      obtain ⟨j, hj⟩ := memI hi
      obtain ⟨d, e1, e2⟩ := dat hj
      have hjl : j < ds'.length := by rw [hl]; exact (List.getElem?_eq_some_iff.mp e1).1
      have R := tagN_back hts hj e1 (hio j (io' hj) ds'[j] (by simp [hjl]))
      exact ⟨ds'[j], d, e2, R.1, putBack_at hnd hj (by simp [hjl]) (List.getElem?_eq_some_iff.mp e2).1, R.2⟩
    exact k v H' (P1.trans P2) (rv.mono (C := fun _ => False) (Gro.refl _) (fun a z => P2.lv.av z) fun _ z => z.elim)
theorem x_call {k : Nat} {f : Addr} {fd : FuncData} {ps : List Str} {x : Str} {e : Expr} {es : List Expr} {fn : List D → Option (D × List D)} {ts : List (Option Nat)} {m : M (List D)} {eff : List Nat} (Fn : FnOk X.prog X.w X.K X.mg X.base CX0 k f fd ps (spD F.K F.T (tagIo ts 0) ps.length fn)) (hr : Room k X.A) (hg : Gl X x) (hm : X.mg x = some (.ref f)) (hk : PySem.W.keepIn X.K (.ref f) = true) (hb : Binds X.K fd ps [])
    (ha : PA X (e :: es) (rdC F ts m eff)) (hlen : ts.length = ps.length := by rfl) (hnd : (ts.filterMap id).Nodup := by decide) (hts : ts.length ≤ 1000 := by decide)
    (hdb : (x == ("__debug__" : Str)) = false := by decide) (he : starEach (e :: es) X.env = (false, eval e X.env) :: starEach es X.env := by rfl) (hpl : (backTo pos (starEach es X.env)).any (·.1) = false := by rfl) :
    PE X (.Call (.Name x p) (e :: es) [] pos) (rd F (mCall fn ts m) [] (eff ++ ts.filterMap id)) := by
  refine PE.mono (pe_call Fn hr hg hm hk hb .nil pass0 ha hdb he hpl) fun σ H Q ⟨B, A, ρ, r, ρ', E, hm, kq⟩ => ?_
  unfold mCall at hm
  split at hm
  · rename_i ds ρ1 e1
    split at hm
    · rename_i r' ds' e2
      split at hm
      · rename_i hl
        cases hm
        refine ⟨B, A, ρ, ds, ρ1, E, e1, fun vs H1 P1 tg => ?_⟩
        show spD F.K F.T (tagIo ts 0) ps.length fn (vs ++ []) H1 Q _
        rw [List.append_nil]
        exact call_spD hnd P1 tg hlen e2 hl hts fun v H' P r => kq v H' P (.inl r)
      · cases hm
    · cases hm
  · cases hm
end
end PD
set_option Elab.async false
set_option linter.all false
set_option maxRecDepth 100000
set_option maxHeartbeats 2000000
namespace PD
open PySem PySem.Spec PyProof.Rows L2 GxR GenX OwnK
section
variable {X : Cx} {F : Frm} {pos p : Pos}
theorem s_retNew {e : Expr} {m : M D} {eff : List Nat} (h : PE X e (rdN F m eff)) (hnw : F.new = true := by rfl) : PS X (.Return (some e) pos) (rdS F (mRet m)) := PS.mono (ps_ret h) fun Dn σ H ⟨A, ρ, out, E, hm, k⟩ => by
  unfold mRet at hm
  cases q : m ρ with
  | none => rw [q] at hm; cases hm
  | some r =>
    rw [q] at hm
    cases hm
    exact ⟨[], A, ρ, r.1, r.2, E, q, fun p H' P E' hp r' => k A σ _ H' P.env (.fresh hnw E' (E'.occB p List.mem_cons_self).2.1 (.inr (.inl List.mem_cons_self)) r')⟩
theorem s_retOwn {i : Nat} {x : Str} (hN : X.N[i]? = some x) (hv : Vis X.env.scope x) (hio : i ∉ F.io := by decide) (hnw : F.new = true := by rfl) (hd : (x == ("__debug__" : Str)) = false := by decide) (hcd : (x == ("__classdict__" : Str)) = false := by decide) :
    PS X (.Return (some (.Name x p)) pos) (rdS F (mRet (mOwn i))) := PS.mono (ps_ret (pe_var hN hv hd hcd)) fun Dn σ H ⟨A, ρ, out, E, hm, k⟩ => by
  unfold mRet at hm
  cases q : mOwn i ρ with
  | none => rw [q] at hm; cases hm
  | some r =>
    rw [q] at hm
    cases hm
    unfold mOwn at q
    split at q
    · rename_i d q'
      split at q
      · cases q
      · rename_i hb
        cases q
        obtain ⟨h1, h2⟩ := E.own i d q'
        exact ⟨_, h1, k A σ _ H E (.fresh hnw E (E.nS i d _ q' .self hio).2.2 (.inr (.inr ⟨i, d, q', .self⟩)) (h2.relO (by simpa using hb)))⟩
    · cases q
end
def spN (K : KWd) (T : List Addr) (io : List Nat) (n : Nat) (f : List D → Option (D × List D)) : Sp := fun vs H Q _ => ∃ S A0 ds r ds', f ds = some (r, ds') ∧ ds.length = n ∧ ds'.length = n ∧ ArgsOk K S io A0 H vs ds ∧ (∀ a, S a → H a ≠ none) ∧ (∀ P ∈ T, TabN H P) ∧
  ∀ p H', Gro (fun a => ∃ j ∈ io, a = A0 j ∨ a = A0 (j + 1000)) H H' → (∀ j ∈ io, ∀ d', ds'[j]? = some d' → Own K (fun a => S a ∨ a = p) H' A0 j d') → H p = none → RelO K (fun a => S a ∨ a = p) H' p r → Q (.ref p) H'
theorem spN_len {K : KWd} {T : List Addr} {io : List Nat} {n : Nat} {f : List D → Option (D × List D)} (vs : List V) (H : Hp) (Q : VK) (E : XK) (h : spN K T io n f vs H Q E) : vs.length = n := by
  obtain ⟨S, A0, ds, r, ds', _, h1, _, h2, _⟩ := h
  rw [h2.len, h1]
def runN (n : Nat) (io : List Nat) (mb : MS) (ds : List D) : Option (D × List D) := match mb (startR io n ds) with
  | some (.rt d ρ) => some (d, backR ρ ds.length)
  | _ => none
section
variable {P : Program} {w : World} {K : PySem.W.Frag} {mg : Str → Option Value} {base : Heap}
theorem okN {x qual : Str} {st : Stmt} {f c : Addr} {fd : FuncData} {N ps : List Str} {k : Nat} {T : List Addr} {io : List Nat} {mb : MS} (F : FunC K x qual st f fd c) (Sc : FnScope N ps (defScope st))
    (hbody : ∀ (A : Around) (outer : List Env) (s : Shared) (H : Hp) (E : XK) (S : Addr → Prop) (A0 : Nat → Addr), Room k (A.deeper (envOfC qual (defScope st) s.heap.objs.size f (.ref c))) →
      PSs (cxOf CX0 P w K mg base N qual (defScope st) f (.ref c) A outer s H E).nox (defBody st) (rdS ⟨⟨K, w⟩, S, io, T, H, A0, [], true⟩ mb)) (hN : ps.length ≤ N.length ∧ N.length ≤ 1000 := by decide) :
    FnOk P w K mg base CX0 (k + 1) f fd ps (spN ⟨K, w⟩ T io ps.length (runN N.length io mb)) := by
  obtain ⟨oc, od, kV, doc, pm, an, ct, osl, rfl, lk, hcd⟩ := F.ex
  refine fn_of lk hcd Sc spN_len fun A outer s H vs Q E hr hsp => ?_
  obtain ⟨S, A0, ds, r, ds', hf, hn, hn', ha, occ, tabs, k⟩ := hsp
  refine ⟨_, (hbody A outer s H E S A0 hr).nox, A0, startR io N.length ds, ?_⟩
  have hfl : (startR io N.length ds).length ≤ 1000 := by
    unfold startR
    rw [List.length_append, ioR_len, List.length_replicate]
    omega
  unfold runN at hf
  split at hf
  · rename_i d ρ' e
    cases hf
    refine ⟨.rt r ρ', ev_start ha occ tabs hfl true, e, fun A' σ' v H' E' r' => ?_⟩
    obtain ⟨p, rfl, h0, r2, rio⟩ := (show ∃ p, v = .ref p ∧ H p = none ∧ RelO ⟨K, w⟩ (fun a => S a ∨ a = p) H' p r ∧ ∀ j ∈ io, ∀ d', ρ'[j]? = some (some (true, d')) → Own ⟨K, w⟩ (fun a => S a ∨ a = p) H' A0 j d' from r')
    refine k p H' E'.chg (fun j hj d' hd => ?_) h0 r2
    obtain ⟨e, h4, _⟩ := E'.ios j hj
    obtain ⟨b, h5⟩ := back_get hd ⟨true, e, h4⟩
    rw [h4] at h5
    cases h5
    exact rio j hj d' h4
  · cases hf
end
theorem gro_laid {C : Addr → Prop} {H1 H' : Hp} {p : Addr} {o : HO} (g : Gro C H1 H') (hp : H' p = some o) (hn : ∀ ps, o ≠ .tbl ps) (hc : ∀ c q, o ≠ LamX.CodeO c q := by (intro c q z; first | exact PD.TDict.noCode z | (unfold LamX.CodeO at z; cases z))) : Gro C (upd H1 p o) H' := by
  have back : ∀ b u, u ≠ o → upd H1 p o b = some u → H1 b = some u := fun b u hu h => by
    rwa [upd_ne (fun e => hu (by rw [e, upd_same] at h; exact (Option.some.inj h).symm))] at h
  refine ⟨fun a o' h n t => ?_, fun P t => g.tabs P (tabN_mv t (fun ps => back _ _ fun z => hn ps z.symm) fun c q => back _ _ fun z => hc c q z.symm), fun a h => ?_⟩
  · by_cases e : a = p
    · subst e
      rw [upd_same] at h
      cases h
      exact hp
    · rw [upd_ne e] at h
      exact g.keep a o' h n t
  · by_cases e : a = p
    · subst e; rw [hp]; simp
    · rw [upd_ne e] at h
      exact g.live a h
theorem io_some {ts : List (Option Nat)} {j : Nat} (h : j ∈ tagIo ts 0) : ∃ i, ts[j]? = some (some i) := by
  obtain ⟨n, i, e, q⟩ := tagIo_mem.mp h
  rw [Nat.zero_add] at e
  exact ⟨i, e ▸ q⟩
theorem io_of {ts : List (Option Nat)} {j i : Nat} (h : ts[j]? = some (some i)) : j ∈ tagIo ts 0 := tagIo_mem.mpr ⟨j, i, by omega, h⟩
theorem tag_of {ts : List (Option Nat)} {i : Nat} (hi : i ∈ ts.filterMap id) : ∃ j : Nat, ts[j]? = some (some i) := by
  obtain ⟨o, ho, e⟩ := List.mem_filterMap.mp hi
  obtain ⟨j, hj, e2⟩ := List.getElem_of_mem ho
  exact ⟨j, by rw [List.getElem?_eq_getElem hj, e2]; exact congrArg some e⟩
theorem call_back {ts : List (Option Nat)} {B : List Addr} {A : Nat → Addr} {σ : L2.St} {H H' : Hp} {ρ : Rho} {F : Frm} {ds ds' : List D} (hnd : (ts.filterMap id).Nodup) (E : Ev F B A σ H ρ) (dat : ∀ {j i : Nat}, ts[j]? = some (some i) → ∃ d, ds[j]? = some d ∧ ρ[i]? = some (some (true, d))) (hl : ds'.length = ds.length) (hts : ts.length ≤ 1000)
    (g : Gro (fun a => ∃ j ∈ tagIo ts 0, a = tagN A ts ds j ∨ a = tagN A ts ds (j + 1000)) H H') (hio : ∀ j ∈ tagIo ts 0, ∀ d', ds'[j]? = some d' → Own F.K (Av F B A ρ) H' (tagN A ts ds) j d') : Post F B A σ H ρ (ts.filterMap id) H' (putBack ts ds' ρ) := by
  have hI : ∀ i ∈ ts.filterMap id, ∃ d : D, ρ[i]? = some (some (true, d)) := fun i hi => by
    obtain ⟨j, hj⟩ := tag_of hi
    obtain ⟨d, _, q⟩ := dat hj
    exact ⟨d, q⟩
  refine E.writes hI (g.mono fun a ⟨j, hj, z⟩ => ?_) putBack_len (fun i hi => putBack_ne hi) fun i hi => ?_
  · obtain ⟨i, hi⟩ := io_some hj
    obtain ⟨d, e1, e2⟩ := dat hi
    exact ⟨i, List.mem_filterMap.mpr ⟨some i, List.mem_of_getElem? hi, rfl⟩, d, e2, tagN_pt hts hi e1 z⟩
  · obtain ⟨j, hj⟩ := tag_of hi
    obtain ⟨d, e1, e2⟩ := dat hj
    have hjl : j < ds'.length := by rw [hl]; exact (List.getElem?_eq_some_iff.mp e1).1
    have R := tagN_back hts hj e1 (hio j (io_of hj) ds'[j] (by simp [hjl]))
    exact ⟨ds'[j], d, e2, R.1, putBack_at hnd hj (by simp [hjl]) (List.getElem?_eq_some_iff.mp e2).1, R.2⟩
theorem tag_uniq {i : Nat} : ∀ {ts : List (Option Nat)} {a b : Nat}, (ts.filterMap id).Nodup → ts[a]? = some (some i) → ts[b]? = some (some i) → a = b
  | [], a, _, _, h, _ => by simp at h
  | none :: ts, a, b, hn, ha, hb => by
    have hn : (ts.filterMap id).Nodup := by simpa using hn
    cases a with
    | zero => simp at ha
    | succ a => cases b with
      | zero => simp at hb
      | succ b => exact congrArg (· + 1) (tag_uniq hn (by simpa using ha) (by simpa using hb))
  | some k :: ts, a, b, hn, ha, hb => by
    have hn : (k :: ts.filterMap id).Nodup := by simpa using hn
    obtain ⟨hk, hn⟩ := List.nodup_cons.mp hn
    have no : ∀ {b : Nat}, ts[b]? = some (some k) → False := fun h => hk (List.mem_filterMap.mpr ⟨some k, List.mem_of_getElem? h, rfl⟩)
    cases a with
    | zero =>
      simp only [List.getElem?_cons_zero, Option.some.injEq] at ha
      subst ha
      cases b with
      | zero => rfl
      | succ b => exact (no (by simpa using hb)).elim
    | succ a => cases b with
      | zero =>
        simp only [List.getElem?_cons_zero, Option.some.injEq] at hb
        subst hb
        exact (no (by simpa using ha)).elim
      | succ b => exact congrArg (· + 1) (tag_uniq hn (by simpa using ha) (by simpa using hb))
theorem call_args {ts : List (Option Nat)} {B : List Addr} {A : Nat → Addr} {σ : L2.St} {H : Hp} {ρ : Rho} {F : Frm} {ds : List D} {vs : List V} (hnd : (ts.filterMap id).Nodup) (E : Ev F B A σ H ρ) (tg : Tagd F B A ρ H ts vs ds) (hts : ts.length ≤ 1000) :
    ArgsOk F.K (Av F B A ρ) (tagIo ts 0) (tagN A ts ds) H vs ds ∧ ts.length = ds.length ∧ ∀ {j i : Nat}, ts[j]? = some (some i) → ∃ d, ds[j]? = some d ∧ ρ[i]? = some (some (true, d)) := by
  obtain ⟨h1, h2, h3⟩ := tg.at_
  have dat : ∀ {j i : Nat}, ts[j]? = some (some i) → ∃ d, ds[j]? = some d ∧ ρ[i]? = some (some (true, d)) := fun {j i} h => by
    have hj : j < ds.length := by rw [← h2]; exact (List.getElem?_eq_some_iff.mp h).1
    have hv : j < vs.length := by omega
    exact ⟨ds[j], by simp [hj], ((h3 j vs[j] ds[j] (by simp [hv]) (by simp [hj])).1 i h).2⟩
  refine ⟨⟨h1, fun j v d a b => ⟨fun hj => ?_, fun hj => ?_⟩, fun j hj => ?_, fun a ha b hb da db x hda hdb z1 z2 => ?_⟩, h2, dat⟩
  · obtain ⟨i, hi⟩ := io_some hj
    obtain ⟨e1, e2⟩ := (h3 j v d a b).1 i hi
    exact ⟨by rw [tagN_1 hts hi]; exact e1, tagN_own hts hi b (E.own i d e2).2⟩
  · refine (h3 j v d a b).2 ?_
    have hj2 : j < ts.length := by rw [h2]; exact (List.getElem?_eq_some_iff.mp b).1
    cases q : ts[j] with
    | none => rw [List.getElem?_eq_getElem hj2, q]
    | some i => exact absurd (io_of (by rw [List.getElem?_eq_getElem hj2, q])) hj
  · obtain ⟨i, hi⟩ := io_some hj
    obtain ⟨d, e1, e2⟩ := dat hi
    exact ⟨d, e1, fun a z => .inr (.inr ⟨i, d, e2, tagN_pt hts hi e1 (Or.imp id (fun z => z.2) z)⟩)⟩
  · obtain ⟨i, hi⟩ := io_some ha
    obtain ⟨i', hi'⟩ := io_some hb
    obtain ⟨d, e1, e2⟩ := dat hi
    obtain ⟨d', e1', e2'⟩ := dat hi'
    rw [hda] at e1
    cases e1
    rw [hdb] at e1'
    cases e1'
    have e := E.inj i i' da db x e2 e2' (tagN_pt hts hi hda (Or.imp id (fun z => z.2) z1)) (tagN_pt hts hi' hdb (Or.imp id (fun z => z.2) z2))
    subst e
    exact tag_uniq hnd hi hi'
theorem call_spN {f : List D → Option (D × List D)} {ts : List (Option Nat)} {n : Nat} {F : Frm} {B : List Addr} {A : Nat → Addr} {σ : L2.St} {H H1 : Hp} {ρ ρ1 : Rho} {eff : List Nat} {ds ds' : List D} {r : D} {vs : List V} {Q : VK} {E0 : XK} (hnd : (ts.filterMap id).Nodup) (P1 : Post F B A σ H ρ eff H1 ρ1) (tg : Tagd F B A ρ1 H1 ts vs ds) (hn : ts.length = n) (hf : f ds = some (r, ds')) (hl : ds'.length = ds.length) (hts : ts.length ≤ 1000)
    (k : ∀ p H', Post F B A σ H ρ (eff ++ ts.filterMap id) H' (putBack ts ds' ρ1) → Ev F (p :: B) A σ H' (putBack ts ds' ρ1) → (p ∉ B ∧ H p = none) → RelO F.K (Av F (p :: B) A (putBack ts ds' ρ1)) H' p r → Q (.ref p) H') : spN F.K F.T (tagIo ts 0) n f vs H1 Q E0 := by
  obtain ⟨ha, h2, dat⟩ := call_args hnd P1.env tg hts
  refine ⟨Av F B A ρ1, tagN A ts ds, ds, r, ds', hf, by omega, by omega, ha, P1.env.occA, P1.env.tabs, fun p H' g hio hp rv => ?_⟩
  have hS : ∀ {z : List Addr} {ρ' : Rho} {e : List Nat}, Lv e ρ1 ρ' → ∀ a, Av F (p :: B) A ρ' a → Av F B A ρ1 a ∨ a = p := fun l a z => (av_cons a z).imp_left fun z => l.av z
  have hio2 : ∀ j ∈ tagIo ts 0, ∀ d', ds'[j]? = some d' → Own F.K (Av F B A ρ1) H' (tagN A ts ds) j d' := fun j hj d' hd => (hio j hj d' hd).mono (C := fun _ => False) (Gro.refl _) (fun a z => .inl z) (fun _ z => z.elim) fun _ _ => id
  have P2 := call_back hnd P1.env dat hl hts g hio2
  have rs := rv.some
  cases ho : H' p with
  | none => exact absurd ho rs
  | some o =>
    have E2 : Ev F (p :: B) A σ (L2.upd H1 p o) ρ1 := P1.env.hide hp (Ext.new hp) (by rw [upd_same]; simp)
    have P3 := call_back hnd E2 dat hl hts (gro_laid g ho (let ⟨u, e, _, t⟩ := rv.mut; fun ps z => t ps (Option.some.inj (e.symm.trans (ho.trans (congrArg some z))))) (rv.noCode ho)) fun j hj d' hd => (hio j hj d' hd).mono (C := fun _ => False) (Gro.refl _) (fun a z => av_cons a z) (fun _ z => z.elim) fun _ _ => id
    exact k p H' (P1.trans P2) P3.env ⟨fun z => (P1.env.occB p z).1 hp, P1.gro.back hp⟩ (rv.mono (C := fun _ => False) (Gro.refl _) (fun a z => (av_cons a z).imp_left fun z => P2.lv.av z) (fun _ z => z.elim) id)
section
variable {X : Cx} {F : Frm} {pos p : Pos}
theorem x_callN {k : Nat} {f : Addr} {fd : FuncData} {ps : List Str} {x : Str} {e : Expr} {es : List Expr} {fn : List D → Option (D × List D)} {ts : List (Option Nat)} {m : M (List D)} {eff : List Nat} (Fn : FnOk X.prog X.w X.K X.mg X.base CX0 k f fd ps (spN F.K F.T (tagIo ts 0) ps.length fn)) (hr : Room k X.A) (hg : Gl X x) (hm : X.mg x = some (.ref f)) (hk : PySem.W.keepIn X.K (.ref f) = true) (hb : Binds X.K fd ps [])
    (ha : PA X (e :: es) (rdC F ts m eff)) (hlen : ts.length = ps.length := by rfl) (hnd : (ts.filterMap id).Nodup := by decide) (hts : ts.length ≤ 1000 := by decide)
    (hdb : (x == ("__debug__" : Str)) = false := by decide) (he : starEach (e :: es) X.env = (false, eval e X.env) :: starEach es X.env := by rfl) (hpl : (backTo pos (starEach es X.env)).any (·.1) = false := by rfl) :
    PE X (.Call (.Name x p) (e :: es) [] pos) (rdN F (mCall fn ts m) (eff ++ ts.filterMap id)) := by
  refine PE.mono (pe_call Fn hr hg hm hk hb .nil pass0 ha hdb he hpl) fun σ H Q ⟨B, A, ρ, r, ρ', E, hm, kq⟩ => ?_
  unfold mCall at hm
  split at hm
  · rename_i ds ρ1 e1
    split at hm
    · rename_i r' ds' e2
      split at hm
      · rename_i hl
        cases hm
        refine ⟨B, A, ρ, ds, ρ1, E, e1, fun vs H1 P1 tg => ?_⟩
        show spN F.K F.T (tagIo ts 0) ps.length fn (vs ++ []) H1 Q _
        rw [List.append_nil]
        exact call_spN hnd P1 tg hlen e2 hl hts fun p H' P E' hp r => kq p H' P E' hp r
      · cases hm
    · cases hm
  · cases hm
end
end PD
set_option Elab.async false
set_option linter.all false
set_option maxRecDepth 100000
set_option maxHeartbeats 2000000
namespace PD
open PySem PySem.Spec PyProof.Rows L2 GxR GenX OwnK
section
variable {X : Cx} {F : Frm} {pos p : Pos} {K : KWd}
def mUn (g : D → Option D) (m : M D) : M D := fun ρ => match m ρ with
  | some (d, ρ1) => (match g d with
    | some r => some (r, ρ1)
    | none => none)
  | none => none
theorem mUn_some {g : D → Option D} {m : M D} {ρ ρ1 : Rho} {r : D} (h : mUn g m ρ = some (r, ρ1)) : ∃ d, m ρ = some (d, ρ1) ∧ g d = some r := by
  unfold mUn at h
  split at h
  · rename_i d ρ2 e1
    split at h
    · rename_i r' e2
      cases h
      exact ⟨d, e1, e2⟩
    · cases h
  · cases h
def gNeg : D → Option D
  | .int i => some (.int (-i))
  | _ => none
theorem x_neg {a : Expr} {m : M D} {dep eff : List Nat} (ha : PE X a (rd F m dep eff)) : PE X (.UnaryOp .USub a pos) (rd F (mUn gNeg m) [] eff) := by
  refine PE.mono (pe_un un_neg ha) fun σ H Q ⟨B, A, ρ, d, ρ1, E, hm, k⟩ => ?_
  obtain ⟨d1, e1, e2⟩ := mUn_some hm
  unfold gNeg at e2
  split at e2
  · cases e2
    exact ⟨B, A, ρ, _, ρ1, E, e1, fun v H1 P r => ⟨_, (r.rr P.env).int, k _ H1 P (.inl (.int _))⟩⟩
  · cases e2
instance {i j : Int} : Decidable (CPow i j) := inferInstanceAs (Decidable (_ ∧ _ ∧ _))
def gPow : D → D → Option D
  | .int i, .int j => if CPow i j then some (.int (i ^ j.toNat)) else none
  | _, _ => none
theorem o_pow : OpR X (binaryOp .Pow) (rop K gPow) := by
  intro pins s σ H x y v u Q I rx ry ⟨S, d1, d2, d, r1, r2, e, occ, k⟩
  unfold gPow at e
  split at e
  · split at e
    · rename_i hc
      cases e
      exact op_pow pins s σ H x y v u Q I rx ry ⟨_, _, r1.int, r2.int, hc, k _ H (Ext.refl H) (.int _)⟩
    · cases e
  · cases e
def mChain (g g' : D → D → Option D) (ma mb mc : M D) : M D := fun ρ => match ma ρ with
  | some (a, ρ1) => (match mb ρ1 with
    | some (b, ρ2) => (match g a b with
      | some (.bool true) => (match mc ρ2 with
        | some (c, ρ3) => (match g' b c with
          | some d => some (d, ρ3)
          | none => none)
        | none => none)
      | some (.bool false) => some (.bool false, ρ2)
      | _ => none)
    | none => none)
  | none => none
def GKeep (g : D → Rho → Option Rho) : Prop := ∀ d ρ ρ', g d ρ = some ρ' → ∀ (i : Nat) (e : D), ρ'[i]? = some (some (true, e)) → ∃ e0 : D, ρ[i]? = some (some (true, e0)) ∧ (isBg e = true → isBg e0 = true)
theorem gSet_keep {i : Nat} : GKeep (gSet i) := fun d ρ ρ' h => (gSet_lv (vs := [i]) List.mem_cons_self h).own
def gsNil : List D → Rho → Option Rho
  | [], ρ => some ρ
  | _, _ => none
def gsCons (g : D → Rho → Option Rho) (gs : List D → Rho → Option Rho) : List D → Rho → Option Rho
  | d :: ds, ρ => (match g d ρ with
    | some ρ1 => gs ds ρ1
    | none => none)
  | _, _ => none
def gTupT (n : Nat) (gs : List D → Rho → Option Rho) : D → Rho → Option Rho
  | .tuple ds, ρ => if ds.length = n then gs ds ρ else none
  | _, _ => none
def GsKeep (g : List D → Rho → Option Rho) : Prop := ∀ d ρ ρ', g d ρ = some ρ' → ∀ (i : Nat) (e : D), ρ'[i]? = some (some (true, e)) → ∃ e0 : D, ρ[i]? = some (some (true, e0)) ∧ (isBg e = true → isBg e0 = true)
theorem gsCons_some {g : D → Rho → Option Rho} {gs : List D → Rho → Option Rho} {d : D} {ds : List D} {ρ ρ' : Rho} (h : gsCons g gs (d :: ds) ρ = some ρ') : ∃ ρ1, g d ρ = some ρ1 ∧ gs ds ρ1 = some ρ' := by
  have h : (match g d ρ with | some ρ1 => gs ds ρ1 | none => none) = some ρ' := h
  split at h
  · rename_i ρ1 e1; exact ⟨ρ1, e1, h⟩
  · cases h
theorem RelDs.inv {K : KWd} {S : Addr → Prop} {H : Hp} {us : List V} {d : D} {ds : List D} (r : RelDs K S H us (d :: ds)) : ∃ v r, us = v :: r ∧ RelD K S H v d ∧ RelDs K S H r ds := by
  cases r with
  | cons a b => exact ⟨_, _, rfl, a, b⟩
theorem RelDs.inv0 {K : KWd} {S : Addr → Prop} {H : Hp} {us : List V} (r : RelDs K S H us []) : us = [] := by cases r; rfl
theorem gsNil_keep : GsKeep gsNil := fun d ρ ρ' h i e q => by
  cases d with
  | nil => cases h; exact ⟨e, q, id⟩
  | cons _ _ => cases h
theorem gsCons_keep {g : D → Rho → Option Rho} {gs : List D → Rho → Option Rho} (h1 : GKeep g) (h2 : GsKeep gs) : GsKeep (gsCons g gs) := fun d ρ ρ' h i e q => by
  cases d with
  | nil => cases h
  | cons d ds =>
    obtain ⟨ρ1, e1, h⟩ := gsCons_some h
    obtain ⟨e2, q2, k2⟩ := h2 _ _ _ h i e q
    obtain ⟨e3, q3, k3⟩ := h1 _ _ _ e1 i e2 q2
    exact ⟨e3, q3, fun z => k3 (k2 z)⟩
theorem gTupT_keep {n : Nat} {gs : List D → Rho → Option Rho} (h2 : GsKeep gs) : GKeep (gTupT n gs) := fun d ρ ρ' h => by
  unfold gTupT at h
  split at h
  · split at h
    · exact h2 _ _ _ h
    · cases h
  · cases h
def rdGs (F : Frm) (B : List Addr) (m : List D → Rho → Option Rho) : TGs := fun vs σ H Q => ∃ A ρ ds ρ', Ev F B A σ H ρ ∧ RelDs F.K (Av F B A ρ) H vs ds ∧ m ds ρ = some ρ' ∧ ∀ σ' H', Ev F B A σ' H' ρ' → Gro (fun _ => False) H H' → Q σ' H'
theorem av_keep {B : List Addr} {A : Nat → Addr} {ρ ρ' : Rho} (h : ∀ (i : Nat) (e : D), ρ'[i]? = some (some (true, e)) → ∃ e0 : D, ρ[i]? = some (some (true, e0)) ∧ (isBg e = true → isBg e0 = true)) : ∀ a, Av F B A ρ' a → Av F B A ρ a := fun a z => by
  rcases z with z | z | ⟨i, d, e, z⟩
  · exact .inl z
  · exact .inr (.inl z)
  · obtain ⟨e0, q, k⟩ := h i d e
    exact .inr (.inr ⟨i, e0, q, z.imp k⟩)
theorem gs_nil {B : List Addr} : PGs X [] (rdGs F B gsNil) := ⟨fun pins s σ H vs us Q I r ⟨A, ρ, ds, ρ', E, rr, hm, k⟩ => by
  cases rr with
  | nil =>
    cases hm
    exact pgs_nil.run pins s σ H [] us Q I r ⟨rfl, k σ H E (Gro.refl _)⟩
  | cons _ _ => cases hm⟩
theorem gs_cons {B : List Addr} {e : Expr} {es : List Expr} {g : D → Rho → Option Rho} {gs : List D → Rho → Option Rho} (h1 : PG X e (rdG F B g)) (h2 : PGs X es (rdGs F B gs)) (hk : GKeep g)
    (hs : (assignEach (e :: es) X.env).map (·.2) = assign e X.env :: (assignEach es X.env).map (·.2) := by rfl) : PGs X (e :: es) (rdGs F B (gsCons g gs)) := ⟨fun pins s σ H vs us Q I r ⟨A, ρ, ds, ρ', E, rr, hm, k⟩ => by
  cases ds with
  | nil => cases hm
  | cons d ds' =>
    obtain ⟨ρ1, e1, hm⟩ := gsCons_some hm
    obtain ⟨v, vs', rfl, r1, rr⟩ := rr.inv
    refine (pgs_cons h1 h2 hs).run pins s σ H _ us Q I r ⟨v, vs', rfl, A, ρ, d, ρ1, E, r1, e1, fun σ1 H1 E1 g1 => ?_⟩
    exact ⟨A, ρ1, ds', ρ', E1, (rr.mono g1 (fun a z => z) fun _ z => z.elim).mono (C := fun _ => False) (Gro.refl _) (av_keep (hk _ _ _ e1)) fun _ z => z.elim, hm, fun σ2 H2 E2 g2 => k σ2 H2 E2 (g1.trans g2)⟩⟩
theorem g_tup {B : List Addr} {es : List Expr} {kk : Nat} {gs : List D → Rho → Option Rho} {n : Nat} (hc : X.calm = true) (h : PGs X es (rdGs F B gs)) (hK : X.kw = F.K := by rfl)
    (hn : (assignEach es X.env).length = n := by rfl) (hst : (assignEach es X.env).findIdx? (·.1) = none := by rfl) : PG X (.Tuple es kk pos) (rdG F B (gTupT n gs)) :=
  PG.mono (pg_tup hc h hn hst) fun v σ H Q ⟨A, ρ, d, ρ', E, r, hm, k⟩ => by
    unfold gTupT at hm
    split at hm
    · rename_i ds
      split at hm
      · rename_i hl
        obtain ⟨a, xs, rfl, h1, q1⟩ := RR.tuple (.inl r)
        exact ⟨a, xs, rfl, hK.kwK ▸ h1, by rw [q1.length]; exact hl, A, ρ, ds, ρ', E, q1, hm, k⟩
      · cases hm
    · cases hm
def mPar (i j : Nat) (m : M (List D)) : MS := fun ρ => match m ρ with
  | some ([d1, d2], ρ1) => if i < ρ1.length ∧ j < ρ1.length then some (.nx ((ρ1.set i (some (false, d1))).set j (some (false, d2)))) else none
  | _ => none
def rdWs (F : Frm) (vs : List Nat) (m : List D → Rho → Option Rho) : TGs := fun us σ H Q => ∃ B A ρ ds ρ', Ev F B A σ H ρ ∧ RelDs F.K (Av F B A ρ) H us ds ∧ m ds ρ = some ρ' ∧ ∀ σ' H', Ev F B A σ' H' ρ' → Gro (fun _ => False) H H' → L2.wipe σ' vs = L2.wipe σ vs → Lv vs ρ ρ' → Q σ' H'
variable {vs : List Nat}
theorem gs_nilW : PGs X [] (rdWs F vs gsNil) := ⟨fun pins s σ H us zs Q I r ⟨B, A, ρ, ds, ρ', E, rr, hm, k⟩ => by
  cases rr with
  | nil =>
    cases hm
    exact pgs_nil.run pins s σ H [] zs Q I r ⟨rfl, k σ H E (Gro.refl _) rfl ((Lv.refl _).more fun _ h => nomatch h)⟩
  | cons _ _ => cases hm⟩
theorem gs_consW {e : Expr} {es : List Expr} {g : D → Rho → Option Rho} {gs : List D → Rho → Option Rho} (h1 : PG X e (rdW F vs g)) (h2 : PGs X es (rdWs F vs gs))
    (hs : (assignEach (e :: es) X.env).map (·.2) = assign e X.env :: (assignEach es X.env).map (·.2) := by rfl) : PGs X (e :: es) (rdWs F vs (gsCons g gs)) := ⟨fun pins s σ H us zs Q I r ⟨B, A, ρ, ds, ρ', E, rr, hm, k⟩ => by
  cases ds with
  | nil => cases hm
  | cons d ds' =>
    obtain ⟨ρ1, e1, hm⟩ := gsCons_some hm
    obtain ⟨v, vs', rfl, r1, rr⟩ := rr.inv
    refine (pgs_cons h1 h2 hs).run pins s σ H _ zs Q I r ⟨v, vs', rfl, B, A, ρ, d, ρ1, E, r1, e1, fun σ1 H1 E1 g1 w1 l1 => ?_⟩
    exact ⟨B, A, ρ1, ds', ρ', E1, (rr.mono g1 (fun a z => z) fun _ z => z.elim).mono (C := fun _ => False) (Gro.refl _) (av_keep l1.own) fun _ z => z.elim, hm, fun σ2 H2 E2 g2 w2 l2 => k σ2 H2 E2 (g1.trans g2) (w2.trans w1) (l1.trans' l2)⟩⟩
theorem g_tupW {es : List Expr} {kk : Nat} {gs : List D → Rho → Option Rho} {n : Nat} (hc : X.calm = true) (h : PGs X es (rdWs F vs gs)) (hK : X.kw = F.K := by rfl)
    (hn : (assignEach es X.env).length = n := by rfl) (hst : (assignEach es X.env).findIdx? (·.1) = none := by rfl) : PG X (.Tuple es kk pos) (rdW F vs (gTupT n gs)) :=
  PG.mono (pg_tup hc h hn hst) fun v σ H Q ⟨B, A, ρ, d, ρ', E, r, hm, k⟩ => by
    unfold gTupT at hm
    split at hm
    · rename_i ds
      split at hm
      · rename_i hl
        obtain ⟨a, xs, rfl, h1, q1⟩ := RR.tuple (.inl r)
        exact ⟨a, xs, rfl, hK.kwK ▸ h1, by rw [q1.length]; exact hl, B, A, ρ, ds, ρ', E, q1, hm, k⟩
      · cases hm
    · cases hm
end
end PD
set_option Elab.async false
set_option linter.all false
set_option maxRecDepth 100000
set_option maxHeartbeats 2000000
namespace PD
open PySem PySem.Spec PyProof.Rows L2 GxR GenX OwnK
section
variable {X : Cx} {F : Frm} {pos p : Pos} {tg : Expr}
def mBad : MS := fun _ => none
theorem ss_bad {b : List Stmt} : PSs X b (rdS F mBad) := ⟨fun pins s σ H Dn I ⟨A, ρ, out, E, hm, k⟩ => nomatch hm⟩
def dcL (g : D → Rho → Option Rho) (mt : M Bool) (mk mv : M D) (vs : List Nat) : List D → List (D × D) → Rho → Option (List (D × D) × Rho)
  | [], acc, ρ => some (acc, ρ)
  | d :: r, acc, ρ => match g d ρ with
    | none => none
    | some ρ1 => (match mt ρ1 with
      | some (true, ρ2) => (match mk ρ2 with
        | some (kd, ρk) => (match mv ρk with
          | some (y, ρ3) => (match keyD kd with
            | some key => if acc.length < sizeLine then dcL g mt mk mv vs r (gPut.dput acc key y) (wipeR ρ3 vs) else none
            | none => none)
          | none => none)
        | none => none)
      | some (false, ρ2) => dcL g mt mk mv vs r acc (wipeR ρ2 vs)
      | none => none)
def mDc (mi : M (List D)) (g : D → Rho → Option Rho) (mt : M Bool) (mk mv : M D) (vs : List Nat) : M D := fun ρ => match mi ρ with
  | some (ds, ρ1) => (match dcL g mt mk mv vs ds [] (wipeR ρ1 vs) with
    | some (acc, ρ2) => some (.dict acc, wipeR ρ2 vs)
    | none => none)
  | none => none
theorem rd_dc {mi : M (List D)} {g : D → Rho → Option Rho} {mt : M Bool} {mk mv : M D} {effi efft effk effe vs : List Nat} (hv : ∀ i ∈ vs, i ∉ F.io) {σ : L2.St} {H : Hp} {Q : VK} (h : rdN F (mDc mi g mt mk mv vs) (effi ++ (vs ++ (efft ++ (effk ++ effe)))) σ H Q) :
    tDc (rdI F mi effi) (wE F vs g) (tE F mt efft) (eE F mk [] effk) (eE F mv [] effe) vs σ H Q := by
  obtain ⟨B, A, ρ, d, ρ', E, hm, k⟩ := h
  unfold mDc at hm
  split at hm
  · rename_i ds ρ1 e1
    split at hm
    · rename_i res ρ2 e2
      cases hm
      refine ⟨B, A, ρ, ds, ρ1, E, e1, fun J G H1 P1 hG it D hD => ?_⟩
      have Elay : Ev F (D :: B) A σ (upd H1 D (.dK [])) ρ1 := P1.env.hide hD (Ext.new hD) (by rw [upd_same]; simp)
      have ew : ∀ i, i ∉ vs → (L2.wipe σ vs)[i]? = σ[i]? := fun i h => wipe_ne h
      have E0 : Ev (F.more G) (D :: B) A (L2.wipe σ vs) (upd H1 D (.dK [])) (wipeR ρ1 vs) := by
        refine Ev.more ((Elay).wipe (wipe_length σ vs) ew hv) fun r hr => ?_
        refine ((hG r hr).away hD av_cons).ext (Ext.new hD) |>.mono (C := fun _ => False) (Gro.refl _) (fun a z => ?_) fun _ z => z.elim
        rcases z with z | z | ⟨j, e, h, z⟩
        · exact .inl z
        · exact .inr (.inl z)
        · exact .inr (.inr ⟨j, e, (wipeR_some h).1, z⟩)
      refine ⟨fun i m Hc => m = ds.length - i ∧ i ≤ ds.length ∧ ∃ acc xs ρc, Ev (F.more G) (D :: B) A (L2.wipe σ vs) Hc ρc ∧ Hc D = some (.dK xs) ∧ RelKs F.K (Av F (D :: B) A ρc) Hc xs acc ∧ Gro (Ow A ρ) H Hc ∧ Lv (effi ++ (vs ++ (efft ++ (effk ++ effe)))) ρ ρc ∧ dcL g mt mk mv vs (ds.drop i) acc ρc = some (res, ρ2),
        ⟨ds.length, by simp, Nat.zero_le _, [], [], wipeR ρ1 vs, E0, upd_same, .nil, P1.gro.trans (Ext.new hD).gro, (P1.lv.more fun i h => List.mem_append_left _ h).trans' (wipeR_lv.more fun i h => List.mem_append_right _ (List.mem_append_left _ h)), by rw [List.drop_zero]; exact e2⟩, ?_⟩
      rintro i m Hc ⟨rfl, hi, acc, xs, ρc, Ec, hDc, rc, gc, lc, hm⟩
      by_cases hlt : i < ds.length
      · refine .inr ⟨it.goes i _ Hc Ec.rootsG hlt, fun H' => ∃ acc xs ρc, Ev (F.more G) (D :: B) A (L2.wipe σ vs) H' ρc ∧ H' D = some (.dK xs) ∧ RelKs F.K (Av F (D :: B) A ρc) H' xs acc ∧ Gro (Ow A ρ) H H' ∧ Lv (effi ++ (vs ++ (efft ++ (effk ++ effe)))) ρ ρc ∧ dcL g mt mk mv vs (ds.drop (i + 1)) acc ρc = some (res, ρ2), fun H' q => ⟨ds.length - (i + 1), by omega, rfl, hlt, q⟩, fun x H' y => ?_⟩
        obtain ⟨ext, d, ed, rd⟩ := it.yields i _ Hc x H' Ec.rootsG Ec.less.occA hlt y
        rw [drop_cons' ed] at hm
        unfold dcL at hm
        split at hm
        · cases hm
        · rename_i ρg eg
          refine ⟨G, D :: B, A, ρc, d, ρg, Ec.ext ext, rd, eg, fun σ2 H2 E2 g2 hw l2 => ⟨by rw [hw, wipe_wipe], ?_⟩⟩
          have hw2 : L2.wipe σ2 vs = L2.wipe σ vs := by rw [hw, wipe_wipe]
          have hD0 : H D = none := P1.gro.back hD
          have hD2 : H2 D = some (.dK xs) := g2.keep _ _ (ext _ _ hDc) (fun z => z) fun ps z => nomatch z
          have ow1 : ∀ a, Ow A ρg a → Ow A ρ a := fun a z => lc.ow (l2.ow z)
          have gro2 : Gro (Ow A ρ) H H2 := gc.trans ((ext.gro).trans (g2.mono fun _ z => z.elim))
          have av1 : ∀ a, Av F (D :: B) A ρg a → Av F (D :: B) A ρc a := fun a z => l2.av z
          have rc2 : RelKs F.K (Av F (D :: B) A ρg) H2 xs acc := ((rc.ext ext).mono g2 (fun a z => z) fun _ z => z.elim).mono (C := fun _ => False) (Gro.refl _) av1 fun _ z => z.elim
          have lg : Lv (effi ++ (vs ++ (efft ++ (effk ++ effe)))) ρ ρg := lc.trans' (l2.more fun i h => List.mem_append_right _ (List.mem_append_left _ h))
          split at hm
          · rename_i ρt et
            refine ⟨G, D :: B, A, ρg, true, ρt, E2, et, fun H3 P3 => ?_⟩
            simp only [if_true]
            have hD3 : H3 D = some (.dK xs) := P3.gro.keep _ _ hD2 (E2.notOw List.mem_cons_self) fun ps z => nomatch z
            have rc3 : RelKs F.K (Av F (D :: B) A ρt) H3 xs acc := rc2.mono P3.gro (fun a z => P3.lv.av z) fun a z => .inr (.inr z)
            have lt : Lv (effi ++ (vs ++ (efft ++ (effk ++ effe)))) ρ ρt := lg.trans' (P3.lv.more fun i h => List.mem_append_right _ (List.mem_append_right _ (List.mem_append_left _ h)))
            split at hm
            · rename_i kd ρk ek
              refine ⟨G, D :: B, A, ρt, kd, ρk, P3.env, ek, fun kv Hk Pk rk => ?_⟩
              have hDk : Hk D = some (.dK xs) := Pk.gro.keep _ _ hD3 (P3.env.notOw List.mem_cons_self) fun ps z => nomatch z
              have rck : RelKs F.K (Av F (D :: B) A ρk) Hk xs acc := rc3.mono Pk.gro (fun a z => Pk.lv.av z) fun a z => .inr (.inr z)
              have lk : Lv (effi ++ (vs ++ (efft ++ (effk ++ effe)))) ρ ρk := lt.trans' (Pk.lv.more fun i h => List.mem_append_right _ (List.mem_append_right _ (List.mem_append_right _ (List.mem_append_left _ h))))
              split at hm
              · rename_i yd ρe ee
                split at hm
                · rename_i key hkey
                  split at hm
                  · rename_i hz
                    refine ⟨G, D :: B, A, ρk, yd, ρe, Pk.env, ee, fun yv H4 P4 r4 => ?_⟩
                    have hD4 : H4 D = some (.dK xs) := P4.gro.keep _ _ hDk (Pk.env.notOw List.mem_cons_self) fun ps z => nomatch z
                    have rc4 : RelKs F.K (Av F (D :: B) A ρe) H4 xs acc := rck.mono P4.gro (fun a z => P4.lv.av z) fun a z => .inr (.inr z)
                    have W : Gro (fun a => a = D) H4 (upd H4 D (.dK (putK xs key yv))) := Gro.upd hD4 fun ps z => nomatch z
                    have le : Lv (effi ++ (vs ++ (efft ++ (effk ++ effe)))) ρ ρe := lk.trans' (P4.lv.more fun i h => List.mem_append_right _ (List.mem_append_right _ (List.mem_append_right _ (List.mem_append_right _ h))))
                    have e1 := keyD_some hkey
                    subst e1
                    refine ⟨xs, key, (rk.rr Pk.env).key, hD4, by rw [rc4.length]; exact hz, gPut.dput acc key yd, putK xs key yv, wipeR ρe vs, ?_, upd_same, ?_, ?_, le.trans' (wipeR_lv.more fun i h => List.mem_append_right _ (List.mem_append_left _ h)), hm⟩
                    · have E5 := (P4.env.writeB List.mem_cons_self W).wipe (σ' := L2.wipe σ2 vs) (vs := vs) (wipe_length _ _) (fun i h => wipe_ne h) hv
                      rw [hw2] at E5
                      exact E5
                    · refine RelKs.put ?_ ?_
                      · exact r4.plain.mono W (fun a z => wipeR_av (F := F) a z) fun a z => .inr (.inl (z ▸ List.mem_cons_self))
                      · exact rc4.mono W (fun a z => wipeR_av a z) fun a z => .inr (.inl (z ▸ List.mem_cons_self))
                    · exact Gro.fresh (gro2.trans ((P3.gro.mono ow1).trans ((Pk.gro.mono fun a z => ow1 a (P3.lv.ow z)).trans (P4.gro.mono fun a z => ow1 a (P3.lv.ow (Pk.lv.ow z)))))) hD0 W
                  · cases hm
                · cases hm
              · cases hm
            · cases hm
          · rename_i ρt et
            refine ⟨G, D :: B, A, ρg, false, ρt, E2, et, fun H3 P3 => ?_⟩
            simp only [Bool.false_eq_true, if_false]
            have hD3 : H3 D = some (.dK xs) := P3.gro.keep _ _ hD2 (E2.notOw List.mem_cons_self) fun ps z => nomatch z
            have rc3 : RelKs F.K (Av F (D :: B) A ρt) H3 xs acc := rc2.mono P3.gro (fun a z => P3.lv.av z) fun a z => .inr (.inr z)
            have lt : Lv (effi ++ (vs ++ (efft ++ (effk ++ effe)))) ρ ρt := lg.trans' (P3.lv.more fun i h => List.mem_append_right _ (List.mem_append_right _ (List.mem_append_left _ h)))
            refine ⟨acc, xs, wipeR ρt vs, ?_, hD3, ?_, gro2.trans (P3.gro.mono ow1), lt.trans' (wipeR_lv.more fun i h => List.mem_append_right _ (List.mem_append_left _ h)), hm⟩
            · have E5 := P3.env.wipe (σ' := L2.wipe σ2 vs) (vs := vs) (wipe_length _ _) (fun i h => wipe_ne h) hv
              rw [hw2] at E5
              exact E5
            · exact rc3.mono (C := fun _ => False) (Gro.refl _) (fun a z => wipeR_av a z) fun _ z => z.elim
          · cases hm
      · have e : i = ds.length := by omega
        subst e
        rw [List.drop_length] at hm
        cases hm
        have Eb : Ev F (D :: B) A σ Hc (wipeR ρ2 vs) := Ec.less.wipe (wipe_length σ vs).symm (fun i h => (wipe_ne h).symm) hv
        exact .inl ⟨it.stops _ Hc Ec.rootsG, k D Hc ⟨Eb.unhide, gc, lc.trans' (wipeR_lv.more fun i h => List.mem_append_right _ (List.mem_append_left _ h))⟩ Eb ⟨fun z => (P1.env.occB D z).1 hD, P1.gro.back hD⟩ (.inl ⟨xs, hDc, rc.mono (C := fun _ => False) (Gro.refl _) (fun a z => wipeR_av a z) fun _ z => z.elim⟩)⟩
    · cases hm
  · cases hm
theorem x_dc {kx vx iter : Expr} {ifs : List Expr} {scope : Scope} {own : List (Str × Nat)} {mi : M (List D)} {g : D → Rho → Option Rho} {mt : M Bool} {mk mv : M D} {effi efft effk effe : List Nat} (hc : X.calm = true) (hN : X.N.Nodup) (hi : PI X tg iter (rdI F mi effi)) (ok : BlkOk X.N X.env.scope scope own)
    (hg : ∀ (s : Shared) (H : Hp) (C : Addr) (cl : List (Str × Addr)) (fp : List Addr) G, PG (X.blk s H scope (compEnvC scope cl C X.env) fp) tg (rdW (F.more G) (own.map (·.2)) g))
    (ht : ∀ (s : Shared) (H : Hp) (C : Addr) (cl : List (Str × Addr)) (fp : List Addr) G, PTs (X.blk s H scope (compEnvC scope cl C X.env) fp) ifs (rdT (F.more G) mt efft))
    (hk : ∀ (s : Shared) (H : Hp) (C : Addr) (cl : List (Str × Addr)) (fp : List Addr) G, PE (X.blk s H scope (compEnvC scope cl C X.env) fp) kx (rd (F.more G) mk [] effk))
    (he : ∀ (s : Shared) (H : Hp) (C : Addr) (cl : List (Str × Addr)) (fp : List Addr) G, PE (X.blk s H scope (compEnvC scope cl C X.env) fp) vx (rd (F.more G) mv [] effe))
    (hv : ∀ i ∈ own.map (·.2), i ∉ F.io := by decide) (hs : ∀ x, foldedSetIterable iter X.env x = pure x := by intro _; rfl) :
    PE X (.DictComp kx vx [⟨tg, iter, ifs, 0⟩] scope pos) (rdN F (mDc mi g mt mk mv (own.map (·.2))) (effi ++ (own.map (·.2) ++ (efft ++ (effk ++ effe))))) :=
  PE.mono (pe_dc hc hN hi ok (fun s H C cl fp => PG.exW (hg s H C cl fp)) (fun s H C cl fp => PTs.ex (ht s H C cl fp)) (fun s H C cl fp => PE.ex (hk s H C cl fp)) (fun s H C cl fp => PE.ex (he s H C cl fp)) hs) fun σ H Q h => rd_dc hv h
end
end PD
set_option Elab.async false
set_option linter.all false
set_option maxRecDepth 100000
set_option maxHeartbeats 2000000
namespace PD
open PySem PySem.Spec PyProof.Rows L2 GxR GenX OwnK
section
variable {X : Cx} {F : Frm} {pos p : Pos} {K : KWd}
def gIxL : D → D → Option D
  | .list ds, .int i => atI ds i
  | _, _ => none
def mAugL (i : Nat) (g : D → D → Option D) (mk me : M D) : MS := fun ρ => match ρ[i]? with
  | some (some (true, o)) => (match mk ρ with
    | some (kd, ρ1) => (match gIxL o kd with
      | some x => (match me ρ1 with
        | some (d, ρ2) => (match g x d with
          | some r => (match gPut o kd r with
            | some o' => some (.nx (ρ2.set i (some (true, o'))))
            | none => none)
          | none => none)
        | none => none)
      | none => none)
    | none => none)
  | _ => none
end
end PD
set_option Elab.async false
set_option linter.all false
set_option maxRecDepth 100000
set_option maxHeartbeats 2000000
namespace PD
open PySem PySem.Spec PyProof.Rows L2 GxR GenX OwnK
section
variable {X : Cx} {F : Frm} {pos p : Pos} {K : KWd}
def distI : List Int → Nat
  | [] => 0
  | n :: r => if n ∈ r then distI r else distI r + 1
def gLenSet : D → Option D
  | .tuple ds => (allInts ds).bind fun ns => if ns.length + 1 < scanBound then some (.int (distI ns : Nat)) else none
  | _ => none
theorem prd_at {R : V → D → Prop} : ∀ {vs : List V} {ds : List D} {j : Nat} {v : V} {d : D}, Paired R vs ds → vs[j]? = some v → ds[j]? = some d → R v d
  | _, _, 0, _, _, .cons r _, a, b => by simp at a b; subst a b; exact r
  | _, _, j + 1, _, _, .cons _ t, a, b => prd_at t (by simpa using a) (by simpa using b)
  | _, _, _, _, _, .nil, a, _ => by simp at a
def mCallK (f : List D → Option (D × List D)) (ga : List D → List D) (m : M (List D)) : M D := fun ρ => match m ρ with
  | some (ds, ρ1) => (match f (ga ds) with
    | some (r, _) => some (r, ρ1)
    | none => none)
  | none => none
theorem k_nil : PK X [] (rdA F mNil [] []) := ⟨fun pos pins s σ H Q I ⟨B, A, ρ, ds, ρ', E, hm, k⟩ => by
  cases hm
  exact pk_nil.run pos pins s σ H Q I (k [] H (Post.refl E) .nil)⟩
theorem k_cons {e : Expr} {nm : Option Str} {kpos : Pos} {kws : List Keyword} {m : M D} {ms : M (List D)} {eff1 eff2 : List Nat} (ha : PE X e (rd F m [] eff1)) (hr : PK X kws (rdA F ms [] eff2)) : PK X (⟨nm, e, kpos⟩ :: kws) (rdA F (mCons m ms) [] (eff1 ++ eff2)) :=
  ⟨fun pos pins s σ H Q I ⟨B, A, ρ, ds, ρ2, E, hm, k⟩ => by
    obtain ⟨d, ρ1, ds', e1, e2, rfl⟩ := mCons_some hm
    exact (pk_cons ha hr).run pos pins s σ H Q I ⟨B, A, ρ, d, ρ1, E, e1, fun v1 H1 P1 r1 => ⟨B, A, ρ1, ds', ρ2, P1.env, e2, fun vs H2 P2 r2 => k _ H2 (P1.trans P2) (.cons (r1.later P2.gro P2.lv (by simp)) r2)⟩⟩⟩
theorem x_callK0 {k : Nat} {f : Addr} {fd : FuncData} {ps ks : List Str} {x : Str} {kws : List Keyword} {fn : List D → Option (D × List D)} {g : List Value → List Value → List Value} {gV : List V → List V → List V} {ga : List D → List D} {m : M (List D)} {eff : List Nat} (Fn : FnOk X.prog X.w X.K X.mg X.base CX0 k f fd ps (spD F.K F.T [] ps.length fn)) (hr : Room k X.A) (hg : Gl X x) (hm : X.mg x = some (.ref f)) (hk : PySem.W.keepIn X.K (.ref f) = true) (hb : KBinds X.K fd ps ks g gV)
    (ha : PK X kws (rdA F m [] eff)) (hga : ∀ (R : V → D → Prop) (vs : List V) (ds : List D), Paired R vs ds → Paired R (gV [] vs) (ga ds)) (hlen : ∀ ds ρ ρ1, m ρ = some (ds, ρ1) → (ga ds).length = ps.length) (hfl : ∀ ds r ds', fn ds = some (r, ds') → ds'.length = ds.length)
    (hall : (backToKw pos (keywordEach kws X.env)).all (·.1.isSome) = true := by rfl) (hks : (backToKw pos (keywordEach kws X.env)).filterMap (·.1) = ks := by rfl)
    (hdb : (x == ("__debug__" : Str)) = false := by decide)
    (hpl : ((backTo pos (starEach [] X.env)).any (·.1) || (backToKw pos (keywordEach kws X.env)).any (·.1.isNone)) = false := by rfl) :
    PE X (.Call (.Name x p) [] kws pos) (rd F (mCallK fn ga m) [] eff) := by
  refine PE.mono (pe_callK0 Fn hr hg hm hk hb pass0 ha hall hks hdb hpl) fun σ H Q ⟨B, A, ρ, r, ρ', E, hm, kq⟩ => ?_
  unfold mCallK at hm
  split at hm
  · rename_i ds ρ1 e1
    split at hm
    · rename_i r' ds' e2
      cases hm
      refine ⟨B, A, ρ, ds, _, E, e1, fun vs H1 P1 rr => ?_⟩
      have tg := hga _ _ _ (rr.mono fun a b h => h.plain)
      have hl : (ga ds).length = ps.length := hlen _ _ _ e1
      refine ⟨Av F B A ρ', fun _ => 0, ga ds, r, ds', e2, hl, (hfl _ _ _ e2).trans hl, ⟨tg.length, fun j v d a b => ⟨fun hj => absurd hj (by simp), fun _ => ?_⟩, fun j hj => absurd hj (by simp), fun i hi => absurd hi (by simp)⟩, P1.env.occA, P1.env.tabs, fun v H' g' _ rv => ?_⟩
      · exact prd_at tg a b
      · have g2 : Gro (fun _ => False) H1 H' := g'.mono fun a ⟨j, hj, _⟩ => absurd hj (by simp)
        exact kq v H' ⟨P1.env.quiet g2, P1.gro.trans (g2.mono fun _ z => z.elim), P1.lv⟩ (.inl rv)
    · cases hm
  · cases hm
end
end PD
set_option Elab.async false
set_option linter.all false
set_option maxRecDepth 100000
set_option maxHeartbeats 2000000
namespace PD
open PySem PySem.Spec PyProof.Rows L2 GxR GenX OwnK
section
variable {X : Cx} {F : Frm} {pos p : Pos}
theorem nio {io : List Nat} {i : Nat} (h : (!decide (i ∈ io)) = true) : i ∉ io := fun z => by rw [decide_eq_true z] at h; cases h
theorem nios {io l : List Nat} (h : (l.all fun i => !decide (i ∈ io)) = true) : ∀ i ∈ l, i ∉ io := fun i hi => nio (List.all_eq_true.mp h i hi)
theorem xv (i : Nat) {x : Str} (hN : X.N[i]? = some x := by rfl) (hv : Vis X.env.scope x := by first | exact Or.inl rfl | exact Or.inr (Or.inl rfl) | exact Or.inr (Or.inr rfl)) (hd : (x == ("__debug__" : Str)) = false := by decide)
    (hcd : (x == ("__classdict__" : Str)) = false := by decide) : PE X (.Name x pos) (rd F (mVar i) [i] []) := x_var hN hv hd hcd
theorem xf (i : Nat) {x : Str} (hN : X.N[i]? = some x := by rfl) (hv : Vis X.env.scope x := by first | exact Or.inl rfl | exact Or.inr (Or.inl rfl) | exact Or.inr (Or.inr rfl)) (hio : (!decide (i ∈ F.io)) = true := by rfl) (hd : (x == ("__debug__" : Str)) = false := by decide)
    (hcd : (x == ("__classdict__" : Str)) = false := by decide) : PE X (.Name x pos) (rd F (mFrz i) [] [i]) := x_frz hN hv (nio hio) hd hcd
theorem gn (i : Nat) {B : List Addr} {x : Str} (hN : X.N.Nodup) (hi : X.N[i]? = some x := by rfl) (hx : Loc X.env.scope x := by first | exact Or.inl rfl | exact Or.inr rfl) (hio : (!decide (i ∈ F.io)) = true := by rfl)
    (hf : X.fn x = true ∨ X.env.scope.names.lookup x = some .local := by first | exact .inl rfl | exact .inr rfl) : PG X (.Name x pos) (rdG F B (gSet i)) := g_name hN hi hx (nio hio) hf
theorem gnW (i : Nat) {vs : List Nat} {x : Str} (hN : X.N.Nodup) (hi : X.N[i]? = some x := by rfl) (hx : Loc X.env.scope x := by first | exact Or.inl rfl | exact Or.inr rfl) (hio : (!decide (i ∈ F.io)) = true := by rfl) (hvs : decide (i ∈ vs) = true := by rfl)
    (hf : X.fn x = true ∨ X.env.scope.names.lookup x = some .local := by first | exact .inl rfl | exact .inr rfl) : PG X (.Name x pos) (rdW F vs (gSet i)) := g_nameW hN hi hx (nio hio) (of_decide_eq_true hvs) hf
theorem hu65 {A : Around} {k : Nat} (hr : Room k A) : A.units + 65 < cLine := by have := hr.un; omega
theorem rdN_rel {B : List Addr} {A : Nat → Addr} {σ : L2.St} {H' : Hp} {ρ' : Rho} {p : Addr} {d : D} (hd : isDc d = false) (E' : Ev F (p :: B) A σ H' ρ') (hp : p ∉ B) (r : RelO F.K (Av F (p :: B) A ρ') H' p d) : RelD F.K (Av F B A ρ') H' (.ref p) d := r.relD hd av_more (newOut E' hp)
theorem sw_trueD {kx vx : Expr} {gs : List Comprehension} {scope : Scope} {pos py : Pos} {y : Str} {l : Nat} {env : Env} (hk : env.scope.kind = .function) (hy : env.scope.names.lookup y = some .local) (hl : (py.line == pos.line) = true)
    (ha : (scope.names.any fun (n, k) => n == y && (k == .local || k == .cell)) = false) : swapsWith (.DictComp kx vx gs scope pos) (some (.Name y py)) l env = pure true := by
  have ky : env.kindOf y = some .local := hy
  have hb : env.blockKind = .function := by unfold Env.blockKind; rw [hk]; rfl
  unfold swapsWith
  simp only [hb, ky, ha, Expr.pos, hl]
  rfl
theorem ps_setDc {i : Nat} {y : Str} {py : Pos} {kx vx tg iter : Expr} {ifs : List Expr} {scope : Scope} {own : List (Str × Nat)} {pos spos : Pos} {wi : TI} {g : TG} {tt : TT} {tk tv : TE} (hc : X.calm = true) (hN : X.N.Nodup) (hy : X.N[i]? = some y) (hyl : X.env.scope.names.lookup y = some .local)
    (hsw : swapsWith (.DictComp kx vx [⟨tg, iter, ifs, 0⟩] scope pos) (some (.Name y py)) spos.line X.env = pure true) (hi : PI X tg iter wi) (ok : BlkOk X.N X.env.scope scope own)
    (hg : ∀ (s : Shared) (H : Hp) (C : Addr) (cl : List (Str × Addr)) (fp : List Addr), PG (X.blk s H scope (compEnvC scope cl C X.env) fp) tg g) (ht : ∀ (s : Shared) (H : Hp) (C : Addr) (cl : List (Str × Addr)) (fp : List Addr), PTs (X.blk s H scope (compEnvC scope cl C X.env) fp) ifs tt)
    (hk : ∀ (s : Shared) (H : Hp) (C : Addr) (cl : List (Str × Addr)) (fp : List Addr), PE (X.blk s H scope (compEnvC scope cl C X.env) fp) kx tk)
    (he : ∀ (s : Shared) (H : Hp) (C : Addr) (cl : List (Str × Addr)) (fp : List Addr), PE (X.blk s H scope (compEnvC scope cl C X.env) fp) vx tv) (hs : ∀ x, foldedSetIterable iter X.env x = pure x := by intro _; rfl) :
    PS X (.Assign [.Name y py] (.DictComp kx vx [⟨tg, iter, ifs, 0⟩] scope pos) spos) (tAsg (tDc wi g tt tk tv (own.map (·.2))) (gName i)) := by
  refine ⟨fun pins s σ H D I h => ?_⟩
  rw [exec_Assign_Name_used _ _ _ _ hsw]
  refine wpAny_bind (wpAny_standAt (wpAny_bind ?_))
  show wpAny _ X.A (do let _ ← comprehension (.DictComp kx vx [⟨tg, iter, ifs, 0⟩] scope pos) scope X.env (firstIterPos [⟨tg, iter, ifs, 0⟩] pos) newDict false (eval iter X.env) (some (assign (.Name y py) X.env))) _ _ s
  have h : tDc wi g tt tk tv (own.map (·.2)) σ H (fun x H1 => gName i x σ H1 D.nx) := h
  refine wpAny_bind (thn (dc_core (Qf := fun _ s' => SP X pins D .next s') hc hN I hi ok hg ht hk he hs h fun L C s' m H' I' q hn f => ?_) fun _ s' hq => wpAny_pure (wpAny_pure hq))
  show wpAny _ _ (assign (.Name y py) X.env (.ref L)) _ _ _
  refine wpAny_assign_Name (store_ok2 (v := V.ref L) I' hN hy (.inl hyl) rfl (fun s2 I2 ⟨a, sb, ha⟩ => ?_) (.inr hyl))
  obtain ⟨f0, f1, f2, f3, f4, f5⟩ := f
  have haC : C ≠ a := by
    rcases ha with z | z
    · rw [z]; exact f1
    · exact fun e => f4 y a z e.symm
  refine ⟨m, hn.sameBut sb haC, fun h3 sb3 => ?_⟩
  exact ⟨_, H', I2.turned (t' := s2.toks) (fun b o hb e => (sb3.2 b hb).trans e) f0 f1 f3 f4 f5, q⟩
theorem sown_dc (i : Nat) {y : Str} {py : Pos} {kx vx tg iter : Expr} {ifs : List Expr} {scope : Scope} {own : List (Str × Nat)} {pos spos : Pos} {mi : M (List D)} {g : D → Rho → Option Rho} {mt : M Bool} {mk mv : M D} {effi efft effk effe : List Nat} (hc : X.calm = true) (hN : X.N.Nodup) (hi : PI X tg iter (rdI F mi effi)) (ok : BlkOk X.N X.env.scope scope own)
    (hg : ∀ (s : Shared) (H : Hp) (C : Addr) (cl : List (Str × Addr)) (fp : List Addr) G, PG (X.blk s H scope (compEnvC scope cl C X.env) fp) tg (rdW (F.more G) (own.map (·.2)) g))
    (ht : ∀ (s : Shared) (H : Hp) (C : Addr) (cl : List (Str × Addr)) (fp : List Addr) G, PTs (X.blk s H scope (compEnvC scope cl C X.env) fp) ifs (rdT (F.more G) mt efft))
    (hk : ∀ (s : Shared) (H : Hp) (C : Addr) (cl : List (Str × Addr)) (fp : List Addr) G, PE (X.blk s H scope (compEnvC scope cl C X.env) fp) kx (rd (F.more G) mk [] effk))
    (he : ∀ (s : Shared) (H : Hp) (C : Addr) (cl : List (Str × Addr)) (fp : List Addr) G, PE (X.blk s H scope (compEnvC scope cl C X.env) fp) vx (rd (F.more G) mv [] effe))
    (hv : ∀ i ∈ own.map (·.2), i ∉ F.io) (hy : X.N[i]? = some y := by rfl) (hyl : X.env.scope.names.lookup y = some .local := by rfl) (hio : (!decide (i ∈ F.io)) = true := by rfl)
    (hsw : swapsWith (.DictComp kx vx [⟨tg, iter, ifs, 0⟩] scope pos) (some (.Name y py)) spos.line X.env = pure true := by exact sw_trueD rfl rfl rfl (by decide +kernel)) (hs : ∀ x, foldedSetIterable iter X.env x = pure x := by intro _; rfl) :
    PS X (.Assign [.Name y py] (.DictComp kx vx [⟨tg, iter, ifs, 0⟩] scope pos) spos) (rdS F (mAsg (mDc mi g mt mk mv (own.map (·.2))) (gOwn i))) :=
  PS.mono (ps_setDc hc hN hy hyl hsw hi ok (fun s H C cl fp => PG.exW (hg s H C cl fp)) (fun s H C cl fp => PTs.ex (ht s H C cl fp)) (fun s H C cl fp => PE.ex (hk s H C cl fp)) (fun s H C cl fp => PE.ex (he s H C cl fp)) hs) fun Dn σ H h => by
    refine rd_dc hv ?_
    obtain ⟨A, ρ, out, E, hm, k⟩ := h
    unfold mAsg at hm
    split at hm
    · rename_i d ρ1 q
      unfold gOwn at hm
      by_cases hl : i < ρ1.length
      · simp only [if_pos hl] at hm
        cases hm
        exact ⟨[], A, ρ, d, ρ1, E, q, fun p H' P E' hp r' => k _ _ H' (E'.setOwn (nio hio) hl r' hp.1)⟩
      · simp only [if_neg hl] at hm
        cases hm
    · cases hm
theorem mLc_dc {mi : M (List D)} {g : D → Rho → Option Rho} {mt : M Bool} {me : M D} {vs : List Nat} {ρ ρ' : Rho} {d : D} (h : mLc mi g mt me vs ρ = some (d, ρ')) : isDc d = false := by
  unfold mLc at h
  split at h
  · split at h
    · cases h; rfl
    · cases h
  · cases h
theorem sset_lc (i : Nat) {y : Str} {py : Pos} {elt tg iter : Expr} {ifs : List Expr} {scope : Scope} {own : List (Str × Nat)} {pos spos : Pos} {mi : M (List D)} {g : D → Rho → Option Rho} {mt : M Bool} {me : M D} {effi efft effe : List Nat} (hc : X.calm = true) (hN : X.N.Nodup) (hi : PI X tg iter (rdI F mi effi)) (ok : BlkOk X.N X.env.scope scope own)
    (hg : ∀ (s : Shared) (H : Hp) (C : Addr) (cl : List (Str × Addr)) (fp : List Addr) G, PG (X.blk s H scope (compEnvC scope cl C X.env) fp) tg (rdW (F.more G) (own.map (·.2)) g))
    (ht : ∀ (s : Shared) (H : Hp) (C : Addr) (cl : List (Str × Addr)) (fp : List Addr) G, PTs (X.blk s H scope (compEnvC scope cl C X.env) fp) ifs (rdT (F.more G) mt efft))
    (he : ∀ (s : Shared) (H : Hp) (C : Addr) (cl : List (Str × Addr)) (fp : List Addr) G, PE (X.blk s H scope (compEnvC scope cl C X.env) fp) elt (rd (F.more G) me [] effe))
    (hv : ∀ i ∈ own.map (·.2), i ∉ F.io) (hy : X.N[i]? = some y := by rfl) (hyl : X.env.scope.names.lookup y = some .local := by rfl) (hio : (!decide (i ∈ F.io)) = true := by rfl)
    (hsw : swapsWith (.ListComp elt [⟨tg, iter, ifs, 0⟩] scope pos) (some (.Name y py)) spos.line X.env = pure true := by exact sw_true rfl rfl rfl (by decide +kernel)) (hs : ∀ x, foldedSetIterable iter X.env x = pure x := by intro _; rfl) :
    PS X (.Assign [.Name y py] (.ListComp elt [⟨tg, iter, ifs, 0⟩] scope pos) spos) (rdS F (mAsg (mLc mi g mt me (own.map (·.2))) (gSet i))) :=
  PS.mono (ps_setLc hc hN hy hyl hsw hi ok (fun s H C cl fp => PG.exW (hg s H C cl fp)) (fun s H C cl fp => PTs.ex (ht s H C cl fp)) (fun s H C cl fp => PE.ex (he s H C cl fp)) hs) fun Dn σ H h => by
    refine rd_lc hv ?_
    obtain ⟨A, ρ, out, E, hm, k⟩ := h
    unfold mAsg at hm
    split at hm
    · rename_i d ρ1 q
      unfold gSet at hm
      by_cases hl : i < ρ1.length
      · simp only [if_pos hl] at hm
        cases hm
        exact ⟨[], A, ρ, d, ρ1, E, q, fun p H' P E' hp r' => k _ _ H' (P.env.setPlain (nio hio) hl (rdN_rel (mLc_dc q) E' hp.1 r'))⟩
      · simp only [if_neg hl] at hm
        cases hm
    · cases hm
theorem sret {e : Expr} {m : M D} {eff : List Nat} (h : PE X e (rd F m [] eff)) (hnw : F.new = false := by rfl) : PS X (.Return (some e) pos) (rdS F (mRet m)) := s_ret h hnw
theorem sretO (i : Nat) {x : Str} (hN : X.N[i]? = some x := by rfl) (hv : Vis X.env.scope x := by first | exact Or.inl rfl | exact Or.inr (Or.inl rfl) | exact Or.inr (Or.inr rfl)) (hio : (!decide (i ∈ F.io)) = true := by rfl) (hnw : F.new = true := by rfl) (hd : (x == ("__debug__" : Str)) = false := by decide)
    (hcd : (x == ("__classdict__" : Str)) = false := by decide) : PS X (.Return (some (.Name x p)) pos) (rdS F (mRet (mOwn i))) := s_retOwn hN hv (nio hio) hnw hd hcd
theorem sown (i : Nat) {x : Str} {e : Expr} {m : M D} {eff : List Nat} {pos' : Pos} (hN : X.N.Nodup) (he : PE X e (rdN F m eff)) (hi : X.N[i]? = some x := by rfl) (hx : Loc X.env.scope x := by first | exact Or.inl rfl | exact Or.inr rfl) (hio : (!decide (i ∈ F.io)) = true := by rfl) (hs : swapsWith e (some (.Name x pos')) pos.line X.env = pure false := by rfl)
    (hf : X.fn x = true ∨ X.env.scope.names.lookup x = some .local := by first | exact .inl rfl | exact .inr rfl) : PS X (.Assign [.Name x pos'] e pos) (rdS F (mAsg m (gOwn i))) := s_own hN hi hx (nio hio) he hs hf
theorem saug (i : Nat) {x : Str} {e : Expr} {m : M D} {dep eff : List Nat} {op : Operator} {g : D → D → Option D} {pos' : Pos} (hN : X.N.Nodup) (he : PE X e (rd F m dep eff)) (ho : PIp X op (rip F.K g)) (hi : X.N[i]? = some x := by rfl) (hx : Loc X.env.scope x := by first | exact Or.inl rfl | exact Or.inr rfl) (hio : (!decide (i ∈ F.io)) = true := by rfl) (hne : (!decide (i ∈ eff)) = true := by rfl)
    (hf : X.fn x = true ∨ X.env.scope.names.lookup x = some .local := by first | exact .inl rfl | exact .inr rfl) : PS X (.AugAssign (.Name x pos') op e pos) (rdS F (mAug i g m)) := s_aug hN hi hx (nio hio) he ho (nio hne) hf
theorem sput (i : Nat) {x : Str} {k value : Expr} {mk mv : M D} {depk effk effv : List Nat} {xp pos' : Pos} (hu : X.A.units + 1 < cLine) (hk : PE X k (rd F mk depk effk)) (hval : PE X value (rd F mv [] effv)) (hN : X.N[i]? = some x := by rfl) (hv : Vis X.env.scope x := by first | exact Or.inl rfl | exact Or.inr (Or.inl rfl) | exact Or.inr (Or.inr rfl)) (hne : (!decide (i ∈ effk)) = true := by rfl)
    (hs : swapsWith value (some (.Subscript (.Name x xp) k pos')) pos.line X.env = pure false := by rfl) (hd : (x == ("__debug__" : Str)) = false := by decide) (hcd : (x == ("__classdict__" : Str)) = false := by decide) :
    PS X (.Assign [.Subscript (.Name x xp) k pos'] value pos) (rdS F (mPut i mk mv)) := s_put hu hN hv hk hval (nio hne) hs hd hcd
theorem xcio (i : Nat) {x : Str} {es : List Expr} {ms : M (List D)} {ts : List (Option Nat)} {eff2 : List Nat} (hr : PA X es (rdC F ts ms eff2)) (hN : X.N[i]? = some x := by rfl) (hv : Vis X.env.scope x := by first | exact Or.inl rfl | exact Or.inr (Or.inl rfl) | exact Or.inr (Or.inr rfl))
    (hd : (x == ("__debug__" : Str)) = false := by decide) (hcd : (x == ("__classdict__" : Str)) = false := by decide) (hs : starEach (.Name x p :: es) X.env = (false, eval (.Name x p) X.env) :: starEach es X.env := by rfl) : PA X (.Name x p :: es) (rdC F (some i :: ts) (mConsIo i ms) eff2) := xc_io hN hv hr hd hcd hs
theorem t_cmp {op : CmpOp} {a b : Expr} {g : D → D → Option D} {m1 m2 : M D} {dep1 eff1 dep2 eff2 : List Nat} (ho : OpR X (compareOp op) (rop F.K g)) (ha : PE X a (rd F m1 dep1 eff1)) (hb : PE X b (rd F m2 dep2 eff2)) (hd : ∀ i ∈ dep1, i ∉ eff2 := by decide)
    (hm : behindInMarks op b = false := by first | exact nobehind _ (by decide) (by decide) | rfl) : PT X (.Compare a [op] [b] pos) (rdT F (mB (mBin g m1 m2)) (eff1 ++ eff2)) := PT.mono (pt_cmpR ho ha hb hm) fun σ H Q h => rd_bin hd (rd_tB h)
end
end PD
set_option Elab.async false
set_option linter.all false
set_option maxRecDepth 100000
set_option maxHeartbeats 2000000
namespace PD
open PySem PySem.Spec PyProof.Rows L2 GxR GenX OwnK
section
variable {X : Cx} {F : Frm} {pos p : Pos} {K : KWd}
def tyName : D → String
  | .none => "NoneType"
  | .bool _ => "bool"
  | .int _ => "int"
  | .str _ => "str"
  | .list _ => "list"
  | .tuple _ => "tuple"
  | .dict _ => "dict"
def isB (n T : String) : Bool := n == T || (n == "bool" && T == "int")
def notTD : D → Bool
  | .dict ds => !isT ds
  | _ => true
def gIsi (T : String) (d : D) : Option D := if notTD d then some (.bool (isB (tyName d) T)) else none
theorem RR.tyx {S : Addr → Prop} {H : Hp} {v : V} {d : D} (hn : notTD d = true) (r : RR K S H v d) : TyX K H v (.type (tyName d)) := by
  rcases r with r | ⟨a, rfl, r⟩
  · cases r with
    | non => exact .base .non
    | bl b => exact .base (.bl b)
    | int i => exact .base (.int i)
    | str i => exact .base (.str i)
    | lst n s r => exact s.elim (fun e => .base (.lst e)) fun ⟨o, e⟩ => .base (.frz e)
    | lstK s r => exact (let ⟨o, its, n, e, c, _⟩ := s; .kList e c)
    | tup n s r => exact (let ⟨o, e, _⟩ := s; .fTuple e)
    | tupK s r => exact (let ⟨o, its, n, e, c, _⟩ := s; .kTuple e c)
    | dic n s r => exact (let ⟨o, e⟩ := s; .fDict e)
    | dit n s r =>
      have hn : (!isT _) = true := hn
      rw [r.isT] at hn
      cases hn
  · cases d with
    | list ds => obtain ⟨xs, e, _⟩ := r; exact .base (.lst e)
    | dict ds =>
      rcases r with ⟨xs, e, _⟩ | ⟨xs, e, r⟩
      · exact .base (.dK e)
      · have hn : (!isT ds) = true := hn
        rw [r.isT] at hn
        cases hn
    | _ => exact r.elim
structure KitT (T : String) : Prop where
  all : ∀ (K : PySem.W.Frag) (n : String), n ∈ ["NoneType", "bool", "int", "str", "list", "tuple", "dict"] → PySem.W.kitOne K (.type n) (.type T) = some (isB n T)
theorem tyName_mem (d : D) : tyName d ∈ ["NoneType", "bool", "int", "str", "list", "tuple", "dict"] := by cases d <;> simp [tyName]
theorem kit_int : KitT "int" := ⟨fun K n h => by
  simp only [List.mem_cons, List.not_mem_nil, or_false] at h
  rcases h with rfl | rfl | rfl | rfl | rfl | rfl | rfl <;> rfl⟩
theorem kit_bool : KitT "bool" := ⟨fun K n h => by
  simp only [List.mem_cons, List.not_mem_nil, or_false] at h
  rcases h with rfl | rfl | rfl | rfl | rfl | rfl | rfl <;> rfl⟩
theorem kit_str : KitT "str" := ⟨fun K n h => by
  simp only [List.mem_cons, List.not_mem_nil, or_false] at h
  rcases h with rfl | rfl | rfl | rfl | rfl | rfl | rfl <;> rfl⟩
theorem kit_tuple : KitT "tuple" := ⟨fun K n h => by
  simp only [List.mem_cons, List.not_mem_nil, or_false] at h
  rcases h with rfl | rfl | rfl | rfl | rfl | rfl | rfl <;> rfl⟩
theorem x_isi {e : Expr} {m : M D} {dep eff : List Nat} {T : String} {x : Str} {p2 : Pos} (hT : KitT T) (he : PE X e (rd F m dep eff)) (hg : Gl X "isinstance") (hm : X.mg "isinstance" = none) (hg2 : Gl X x) (hm2 : X.mg x = none) (hv : bootBuiltins x = some (.type T)) (hK : X.kw = F.K := by rfl)
    (hn : x ≠ "__name__" := by decide) (hd : (x == ("__debug__" : Str)) = false := by decide)
    (hs : starEach [e, .Name x p2] X.env = (false, eval e X.env) :: starEach [.Name x p2] X.env := by rfl) (hs2 : starEach [.Name x p2] X.env = (false, eval (.Name x p2) X.env) :: starEach [] X.env := by rfl) (hpl : (backTo pos (starEach [.Name x p2] X.env)).any (·.1) = false := by rfl) :
    PE X (.Call (.Name "isinstance" p) [e, .Name x p2] [] pos) (rd F (mUn (gIsi T) m) [] eff) :=
  PE.mono (pe_callB call_isi hg hm (by decide +kernel) (pa_cons he (pa_cons (pe_bltn (v := .ty T) hg2 hm2 hv rfl hn hd) pa_nil hs2) hs) (by decide) (by decide) hs hpl) fun σ H Q ⟨B, A, ρ, d, ρ1, E, hm, k⟩ => by
    obtain ⟨d1, e1, e2⟩ := mUn_some hm
    unfold gIsi at e2
    split at e2
    rotate_left
    · cases e2
    rename_i hnT
    cases e2
    refine ⟨B, A, ρ, d1, ρ1, E, e1, fun v H1 P r => ?_⟩
    refine ⟨v, .ty T, .type (tyName d1), .type T, isB (tyName d1) T, rfl, .ty T, hK.kwK ▸ (r.rr P.env).tyx hnT, hT.all _ _ (tyName_mem d1), k _ H1 P (.inl (.bl _))⟩
instance {a b : Int} : Decidable (RgOk a b) := inferInstanceAs (Decidable (_ ∧ _ ∧ _ ∧ _ ∧ _))
end
end PD
set_option Elab.async false
set_option linter.all false
set_option maxRecDepth 100000
set_option maxHeartbeats 2000000
namespace PD
open PySem PySem.Spec PyProof.Rows L2 GxR GenX OwnK
def TabOk (P : Program) (w : World) (K : PySem.W.Frag) (K' : KWd) (mg : Str → Option Value) (base : Heap) (T : List Addr) (k : Nat) (pD : Addr) (ts : List (Option Nat)) (tbl : List (Str × (List D → Option (D × List D)))) : Prop :=
  ∀ z fn, tbl.lookup z = some fn → ∃ f fd ps k', KDct K w pD z (.ref f) ∧ k' ≤ k ∧ FnOk P w K mg base CX0 k' f fd ps (spD K' T (tagIo ts 0) ps.length fn) ∧ PySem.W.keepIn K (.ref f) = true ∧ Binds K fd ps [] ∧ ts.length = ps.length
def mTab (tbl : List (Str × (List D → Option (D × List D)))) (ts : List (Option Nat)) (mk : M D) (m : M (List D)) : M D := fun ρ => match mk ρ with
  | some (.str z, ρ1) => (match tbl.lookup z with
    | some fn => mCall fn ts m ρ1
    | none => none)
  | _ => none
theorem tabOk_nil {P : Program} {w : World} {K : PySem.W.Frag} {K' : KWd} {mg : Str → Option Value} {base : Heap} {T : List Addr} {k : Nat} {pD : Addr} {ts : List (Option Nat)} : TabOk P w K K' mg base T k pD ts [] := fun z fn h => nomatch h
theorem tabOk_cons {P : Program} {w : World} {K : PySem.W.Frag} {K' : KWd} {mg : Str → Option Value} {base : Heap} {T : List Addr} {k : Nat} {pD : Addr} {ts : List (Option Nat)} {z : Str} {fn : List D → Option (D × List D)} {tbl : List (Str × (List D → Option (D × List D)))} {f : Addr} {fd : FuncData} {ps : List Str} {k' : Nat}
    (h1 : KDct K w pD z (.ref f)) (h2 : k' ≤ k) (h3 : FnOk P w K mg base CX0 k' f fd ps (spD K' T (tagIo ts 0) ps.length fn)) (h4 : PySem.W.keepIn K (.ref f) = true) (h5 : Binds K fd ps []) (h6 : ts.length = ps.length) (r : TabOk P w K K' mg base T k pD ts tbl) : TabOk P w K K' mg base T k pD ts ((z, fn) :: tbl) := fun y g h => by
  rw [List.lookup_cons] at h
  split at h
  · rename_i e
    cases h
    have e : y = z := by simpa using e
    subst e
    exact ⟨f, fd, ps, k', h1, h2, h3, h4, h5, h6⟩
  · exact r y g h
def MLen (n : Nat) (m : M (List D)) : Prop := ∀ ρ ds ρ1, m ρ = some (ds, ρ1) → ds.length = n
theorem mlen_nil : MLen 0 mNil := fun ρ ds ρ1 h => by cases h; rfl
theorem mlen_cons {n : Nat} {m : M D} {ms : M (List D)} (h : MLen n ms) : MLen (n + 1) (mCons m ms) := fun ρ ds ρ1 q => by
  obtain ⟨d, ρ2, ds', e1, e2, rfl⟩ := mCons_some q
  exact congrArg (· + 1) (h _ _ _ e2)
theorem mlen_ga {n k : Nat} {m : M (List D)} {ga : List D → List D} (h : MLen n m) (hg : ∀ ds, ds.length = n → (ga ds).length = k) : ∀ ds ρ ρ1, m ρ = some (ds, ρ1) → (ga ds).length = k := fun ds ρ ρ1 q => hg ds (h ρ ds ρ1 q)
theorem backR_len {ρ : Rho} {n : Nat} : (backR ρ n).length = n := by unfold backR; simp
theorem runD_len {n : Nat} {io : List Nat} {mb : MS} : ∀ ds r ds', runD n io mb ds = some (r, ds') → ds'.length = ds.length := fun ds r ds' h => by
  unfold runD at h
  split at h
  · cases h; exact backR_len
  · cases h; exact backR_len
  · cases h
section
variable {X : Cx} {F : Frm} {pos p sp : Pos} {K : KWd}
theorem x_tab {k : Nat} {x : Str} {pD : Addr} {tbl : List (Str × (List D → Option (D × List D)))} {e0 e : Expr} {es : List Expr} {ts : List (Option Nat)} {mk : M D} {m : M (List D)} {dep0 eff0 eff : List Nat} (hT : TabOk X.prog X.w X.K F.K X.mg X.base F.T k pD ts tbl) (hr : Room k X.A) (hg : Gl X x) (hm : X.mg x = some (.ref pD)) (hk0 : PE X e0 (rd F mk dep0 eff0))
    (ha : PA X (e :: es) (rdC F ts m eff)) (hnd : (ts.filterMap id).Nodup := by decide) (hts : ts.length ≤ 1000 := by decide)
    (hs0 : PlainIx e0 := by exact fun _ _ => rfl)
    (hdb : (x == ("__debug__" : Str)) = false := by decide) (he : starEach (e :: es) X.env = (false, eval e X.env) :: starEach es X.env := by rfl) (hpl : (backTo pos (starEach es X.env)).any (·.1) = false := by rfl)
    (hev : eval (.Call (.Subscript (.Name x p) e0 sp) (e :: es) [] pos) X.env = (do callWith pos (← eval (.Subscript (.Name x p) e0 sp) X.env) [] (backTo pos (starEach (e :: es) X.env)) (backToKw pos (keywordEach [] X.env))) := by rfl) :
    PE X (.Call (.Subscript (.Name x p) e0 sp) (e :: es) [] pos) (rd F (mTab tbl ts mk m) [] (eff0 ++ (eff ++ ts.filterMap id))) := by
  refine ⟨fun pins s σ H Q I ⟨B, A, ρ, r, ρ', E, hmm, kq⟩ => ?_⟩
  unfold mTab at hmm
  split at hmm
  · rename_i z ρ0 e00
    split at hmm
    · rename_i fn hfn
      obtain ⟨f, fd, ps, k', hD, hkk, Fn, hk, hb, hlen⟩ := hT z fn hfn
      unfold mCall at hmm
      split at hmm
      · rename_i ds ρ1 e1
        split at hmm
        · rename_i r' ds' e2
          split at hmm
          · rename_i hl
            cases hmm
            refine PyProof.Rows.Call_ (thn ((pe_ix ix_kdict (pe_glob (v := .ref pD) hg hm rfl hdb) hk0 hs0).run pins s σ H (fun v H1 => v = .ref f ∧ Post F B A σ H ρ eff0 H1 ρ0) I ⟨B, A, ρ, _, ρ0, E, e00, fun v H1 P1 r1 => ?_⟩) fun u s1 ⟨v, H1, I1, rv, ev, P1⟩ => ?_) hev
            · exact ⟨pD, z, .ref f, rfl, (r1.rr P1.env).str, hD, rfl, P1⟩
            · subst ev
              cases rv
              refine PySem.W.callWith_K (h₀ := X.base) I1.ok.mod.kin hk (thn (ha.run pos pins s1 σ H1 (fun vs H2 => spD F.K F.T (tagIo ts 0) ps.length fn (vs ++ []) H2 Q L2.E0) I1 ⟨B, A, ρ0, ds, ρ1, P1.env, e1, fun vs H2 P2 tg => ?_⟩) fun us s2 ⟨vs, H2, I2, r, q⟩ => ⟨I2.kIn, ?_⟩) he hpl
              rotate_left
              · exact run_fn Fn (hr.mono hkk) hb .nil (L2.pass0 (X := X)) I2 r q
              · show spD F.K F.T (tagIo ts 0) ps.length fn (vs ++ []) H2 Q _
                rw [List.append_nil]
                exact call_spD hnd (P1.trans P2) tg hlen e2 hl hts fun v H' P r => by
                  rw [List.append_assoc] at P
                  exact kq v H' P (.inl r)
          · cases hmm
        · cases hmm
      · cases hmm
    · cases hmm
  · cases hmm
def strsOf : List D → Option (List Str)
  | [] => some []
  | .str z :: r => (strsOf r).map (z :: ·)
  | _ :: _ => none
theorem strsOf_rel {S : Addr → Prop} {H : Hp} : ∀ {ds : List D} {zs : List Str} {xs : List V}, strsOf ds = some zs → RelDs K S H xs ds → xs = zs.map V.str
  | [], _, _, e, r => by
    cases r
    cases e
    rfl
  | d :: ds, zs, _, e, r => by
    cases r with
    | cons h t =>
      cases d with
      | str z =>
        have e : (strsOf ds).map (z :: ·) = some zs := e
        cases q : strsOf ds with
        | none => rw [q] at e; cases e
        | some zs' =>
          rw [q] at e
          cases e
          cases h
          rw [strsOf_rel q t]
          rfl
      | _ => cases e
end
end PD
set_option Elab.async false
set_option linter.all false
set_option maxRecDepth 100000
set_option maxHeartbeats 2000000
namespace PD
open PySem PySem.Spec PyProof.Rows L2 GxR GenX OwnK
def mGet2 (m1 m2 m3 : M D) : M D := fun ρ => match m1 ρ with
  | some (.dict kvs, ρ1) => (match m2 ρ1 with
    | some (kd, ρ2) => (match m3 ρ2 with
      | some (dd, ρ3) => (match keyD kd with
        | some key => if isT kvs then none else some ((dget kvs key).getD dd, ρ3)
        | none => none)
      | none => none)
    | none => none)
  | _ => none
section
variable {X : Cx} {F : Frm} {pos p : Pos} {K : KWd}
theorem x_get2 {o e f : Expr} {m1 m2 m3 : M D} {dep1 eff1 dep2 eff2 eff3 : List Nat} {apos cpos : Pos} (hu : X.A.units + 1 < cLine) (ho : PE X o (rd F m1 dep1 eff1)) (he : PE X e (rd F m2 dep2 eff2)) (hf : PE X f (rd F m3 [] eff3)) (h1 : ∀ i ∈ dep1, i ∉ eff2 := by decide) (h2 : ∀ i ∈ dep1, i ∉ eff3 := by decide) (h3 : ∀ i ∈ dep2, i ∉ eff3 := by decide)
    (m : M2 X o "get" apos e f cpos := by exact ⟨rfl, rfl, rfl, rfl⟩) : PE X (.Call (.Attribute o "get" apos) [e, f] [] cpos) (rd F (mGet2 m1 m2 m3) [] (eff1 ++ eff2 ++ eff3)) :=
  PE.mono (pe_dget2 hu ho he hf m) fun σ H Q ⟨B, A, ρ, d, ρ', E, hm, k⟩ => by
    unfold mGet2 at hm
    split at hm
    · rename_i kvs ρ1 e1
      split at hm
      · rename_i kd ρ2 e2
        split at hm
        · rename_i dd ρ3 e3
          split at hm
          · rename_i key ek
            split at hm
            · cases hm
            rename_i hnT
            have hnT := Bool.eq_false_iff.mpr hnT
            cases hm
            refine ⟨B, A, ρ, .dict kvs, ρ1, E, e1, fun v1 H1 P1 r1 => ?_⟩
            obtain ⟨a, kv, rfl, hR, rk⟩ := (r1.rr P1.env).dict hnT
            refine ⟨a, rfl, .inl ⟨kv, hR⟩, B, A, ρ1, kd, ρ2, P1.env, e2, fun v2 H2 P2 r2 => ⟨B, A, ρ2, dd, _, P2.env, e3, fun v3 H3 P3 r3 => ?_⟩⟩
            obtain ⟨a', kv', ea, hR', rk'⟩ := (((r1.later P2.gro P2.lv h1).later P3.gro P3.lv h2).rr P3.env).dict hnT
            cases ea
            have ekd := keyD_some ek
            subst ekd
            obtain ⟨o', g, gs, gv⟩ := RelKs.dget hR' rk' ((r2.later P3.gro P3.lv h3).rr P3.env).key
            refine ⟨o', g, k _ H3 ((P1.trans P2).trans P3) (.inl ?_)⟩
            cases q : dget kvs key with
            | none =>
              rw [q] at gs
              cases o' with
              | none => exact r3.plain
              | some _ => cases gs
            | some d' =>
              obtain ⟨v, ev, rv⟩ := gv d' q
              rw [ev]
              exact rv
          · cases hm
        · cases hm
      · cases hm
    · cases hm
def pairsOf : List D → Option (List (Key × D))
  | [] => some []
  | .tuple [kd, d] :: r => (match keyD kd, pairsOf r with
    | some k, some l => some ((k, d) :: l)
    | _, _ => none)
  | _ :: _ => none
def dmerge : List (D × D) → List (Key × D) → List (D × D)
  | acc, [] => acc
  | acc, (k, d) :: r => dmerge (gPut.dput acc k d) r
inductive RelPs (K : KWd) (S : Addr → Prop) (H : Hp) : List (Key × V) → List (Key × D) → Prop
  | nil : RelPs K S H [] []
  | cons {k : Key} {v : V} {kvs : List (Key × V)} {d : D} {l : List (Key × D)} : RelD K S H v d → RelPs K S H kvs l → RelPs K S H ((k, v) :: kvs) ((k, d) :: l)
theorem pairs_rel {S : Addr → Prop} {H : Hp} : ∀ {ds : List D} {l : List (Key × D)} {xs : List V}, pairsOf ds = some l → RelDs K S H xs ds → ∃ (ps : List Addr) (kvs : List (Key × V)), xs = ps.map V.ref ∧ Paired (fun p kv => SqT K H p [kV kv.1, kv.2]) ps kvs ∧ RelPs K S H kvs l
  | [], l, xs, e, r => by
    cases r
    cases e
    exact ⟨[], [], rfl, .nil, .nil⟩
  | d :: ds, l, xs, e, r => by
    unfold pairsOf at e
    split at e
    · rename_i h; cases h
    · rename_i kd d' r0 h
      cases h
      split at e
      · rename_i k l' ek el
        cases e
        obtain ⟨v, xs', rfl, rv, rr⟩ := r.inv
        obtain ⟨a, ys, rfl, hs, q⟩ := (show RR K S H v (.tuple [kd, d']) from .inl rv).tuple
        obtain ⟨y1, ys1, rfl, q1, q⟩ := q.inv
        obtain ⟨y2, ys2, rfl, q2, q⟩ := q.inv
        have e0 := q.inv0
        subst e0
        obtain ⟨ps, kvs, rfl, hp, hr⟩ := pairs_rel el rr
        have ekd := keyD_some ek
        subst ekd
        have ey := (show RR K S H y1 (kD k) from .inl q1).key
        subst ey
        exact ⟨a :: ps, (k, y2) :: kvs, rfl, .cons hs hp, .cons q2 hr⟩
      · cases e
    · cases e
theorem merge_rel {S : Addr → Prop} {H : Hp} : ∀ {kvs : List (Key × V)} {l : List (Key × D)} {acc : List (Key × V)} {dacc : List (D × D)}, RelPs K S H kvs l → RelKs K S H acc dacc → RelKs K S H (mergeK acc kvs) (dmerge dacc l)
  | _, _, _, _, .nil, r => r
  | _, _, _, _, .cons (k := k) (v := v) (kvs := kvs) (d := d) (l := l) q t, r => by
    unfold dmerge
    show RelKs K S H (mergeK (putK _ k v) kvs) _
    exact merge_rel t (RelKs.put q r)
end
end PD
set_option Elab.async false
set_option linter.all false
set_option maxRecDepth 100000
set_option maxHeartbeats 2000000
namespace PD
open PySem PySem.Spec PyProof.Rows L2 GxR GenX OwnK
section
variable {X : Cx} {F : Frm} {pos p : Pos} {K : KWd}
def IsT (K : PySem.W.Frag) (H : Hp) (a : Addr) : Prop := (∃ xs, FrzT.TupF H a xs) ∨ ∃ o, K.lookup a = some o ∧ o.cls = .type "tuple" ∧ o.dict = none
def gTCount : D → D → Option D
  | .tuple ds, .int k => (allInts ds).map fun ns => .int (ns.count k : Nat)
  | _, _ => none
theorem isT_of {S : Addr → Prop} {H : Hp} {v : V} {ds : List D} (r : RR K S H v (.tuple ds)) : ∃ a xs, v = .ref a ∧ SqT K H a xs ∧ RelDs K S H xs ds ∧ IsT K H a := by
  rcases r with r | ⟨a, _, r⟩
  · cases r with
    | tup n s r => exact ⟨_, _, rfl, .inl s.rd, r, .inl ⟨_, s⟩⟩
    | tupK s r => exact ⟨_, _, rfl, .inr s.sq, r, .inr (let ⟨o, _, _, e, c, d, _⟩ := s; ⟨o, e, c, d⟩)⟩
  · exact r.elim
end
end PD
set_option Elab.async false
set_option linter.all false
set_option maxRecDepth 100000
set_option maxHeartbeats 2000000
namespace PD
open PySem PySem.Spec PyProof.Rows L2 GxR GenX OwnK
section
variable {X : Cx} {F : Frm} {pos : Pos}
end
end PD
set_option Elab.async false
set_option linter.all false
set_option maxRecDepth 100000
set_option maxHeartbeats 2000000
namespace PD
open PySem PySem.Spec PyProof.Rows L2 GxR GenX OwnK
def SqB (K : PySem.W.Frag) (H : Hp) (a : Addr) (xs : List V) : Bool → Prop
  | false => SqL K H a xs
  | true => SqT K H a xs
def hasB (h : Heap) (a : Addr) (its : Array Value) : Bool → Prop
  | false => h.IsList a its
  | true => h.IsTuple a its
def turnB (h : Heap) (it a : Addr) (i : Nat) : Bool → Prop
  | false => h.IsListIter it a i
  | true => h.IsTupleIter it a i
def objB (a : Addr) : Bool → Obj
  | false => { cls := .type "list_iterator", data := .fields #[.ref a, .int 0 0] }
  | true => { cls := .type "tuple_iterator", data := .fields #[.ref a, .int 0 0] }
section
variable {prog : Program} {w : World} {A : Around} {h h' : Heap} {it a : Addr} {i : Nat}
theorem drawB (hh : A.handled = none) (hne : a ≠ it) (its : Array Value) : ∀ b : Bool, Draws prog w A it [it, a] its.size (fun i v => its[i]? = some v) (fun i h => turnB h it a i b ∧ hasB h a its b)
  | false => Draws.list hh it a hne its
  | true => Draws.tuple hh it a hne its
theorem beginB (its : Array Value) : ∀ b : Bool, Begins (.ref a) (objB a b) fun h => hasB h a its b
  | false => begins_list a its
  | true => begins_tuple a its
theorem turnB_0 : ∀ b : Bool, h.get? it = some (objB a b) → turnB h it a 0 b
  | false, e => ⟨_, e, rfl, rfl⟩
  | true, e => ⟨_, e, rfl, rfl⟩
theorem turnB_at : ∀ b : Bool, turnB h it a i b → (∀ o, h.get? it = some o → h'.get? it = some o) → turnB h' it a i b
  | false, t, k => t.at k
  | true, t, k => t.at k
theorem turnB_obj : ∀ b : Bool, turnB h it a i b → ∃ o, h.get? it = some o ∧ ∀ v, o.data ≠ .cell v
  | false, ⟨o, e, _, d⟩ => ⟨o, e, fun v q => by rw [d] at q; cases q⟩
  | true, ⟨o, e, _, d⟩ => ⟨o, e, fun v q => by rw [d] at q; cases q⟩
theorem turnB_lt (b : Bool) (t : turnB h it a i b) : it < h.objs.size := let ⟨_, e, _⟩ := turnB_obj b t; Heap.lt_size e
end
section
variable {X : Cx} {pins : List (Addr × Obj)} {σ : L2.St} {H : Hp} {s : Shared} {a : Addr} {xs ys : List V}
theorem sqB_inv (I : Inv X pins σ H s) : ∀ b : Bool, SqB X.K H a xs b → ∃ its : List Value, Vals xs its ∧ hasB s.heap a its.toArray b ∧ a < s.heap.objs.size
  | false, q => let ⟨its, r, p, _⟩ := I.list q; ⟨its, r, p.isList, p.lt⟩
  | true, q => let ⟨its, r, p, _⟩ := I.tuple q; ⟨its, r, p, p.lt⟩
theorem sqB_same (I : Inv X pins σ H s) : ∀ b : Bool, SqB X.K H a xs b → SqB X.K H a ys b → xs = ys
  | false, q, q' => I.list_inj q q'
  | true, q, q' => I.tuple_inj q q'
end
def at2 (K : PySem.W.Frag) (b1 b2 : Bool) (a1 a2 : Addr) (i : Nat) (H : Hp) (x y : V) : Prop := (∀ l, SqB K H a1 l b1 → l[i]? = some x) ∧ ∀ l, SqB K H a2 l b2 → l[i]? = some y
def Zip3 (K : PySem.W.Frag) (b1 b2 b3 : Bool) (a1 a2 a3 : Addr) : It where
  go i H := ∃ l1 l2 l3 x y z, SqB K H a1 l1 b1 ∧ SqB K H a2 l2 b2 ∧ SqB K H a3 l3 b3 ∧ l1[i]? = some x ∧ l2[i]? = some y ∧ l3[i]? = some z
  yld i H v H' := ∃ T o x y z, v = .ref T ∧ H T = none ∧ o.cls = .type "tuple" ∧ o.dict = none ∧ H' = upd H T (.frz o (.tup [x, y, z])) ∧ at2 K b1 b2 a1 a2 i H x y ∧ ∀ l, SqB K H a3 l b3 → l[i]? = some z
  stop i H := ∃ l1 l2 l3, SqB K H a1 l1 b1 ∧ SqB K H a2 l2 b2 ∧ SqB K H a3 l3 b3 ∧ i ≤ l1.length ∧ i ≤ l2.length ∧ i ≤ l3.length ∧ (i = l1.length ∨ i = l2.length ∨ i = l3.length)
theorem out3 {c z TO i1 i2 i3 TI : Addr} (h : c ∉ [z, TI, TO, i1, i2, i3]) : c ≠ z ∧ c ≠ TO ∧ c ≠ i1 ∧ c ≠ i2 ∧ c ≠ i3 := by simp at h; exact ⟨h.1, h.2.2.1, h.2.2.2.1, h.2.2.2.2.1, h.2.2.2.2.2⟩
section
variable {P : Program} {w : World} {K : PySem.W.Frag} {elts : List Expr} {kk : Nat} {tpos : Pos} {b1 b2 b3 : Bool} {a1 a2 a3 z TI TO i1 i2 i3 : Addr}
theorem turn3 (S : ZipSep3 z TI TO i1 i2 i3 [i1, a1] [i2, a2] [i3, a3]) (n1 : a1 ≠ i1) (n2 : a2 ≠ i2) (n3 : a3 ≠ i3) :
    Turn P w K (.Tuple elts kk tpos) (Zip3 K b1 b2 b3 a1 a2 a3) [z, TI, TO, i1, i2, i3] z (fun i h => IsZip h z TI TO .none ∧ IsTupOf3 h TI (.ref i1) (.ref i2) (.ref i3) ∧ (∃ x y u, IsTupOf3 h TO x y u) ∧ turnB h i1 a1 i b1 ∧ turnB h i2 a2 i b2 ∧ turnB h i3 a3 i b3) where
  mem := List.mem_cons_self
  obj := fun i h ⟨t1, t2, ⟨x, y, u, t3⟩, t4, t5, t6⟩ c hc => by
    simp only [List.mem_cons, List.not_mem_nil, or_false] at hc
    rcases hc with rfl | rfl | rfl | rfl | rfl | rfl
    · exact ⟨_, t1, nofun⟩
    · exact ⟨_, t2, nofun⟩
    · exact ⟨_, t3, nofun⟩
    · exact turnB_obj b1 t4
    · exact turnB_obj b2 t5
    · exact turnB_obj b3 t6
  keep := fun i h h' ⟨t1, t2, ⟨x, y, u, t3⟩, t4, t5, t6⟩ k =>
    ⟨k z (by simp) _ t1, k TI (by simp) _ t2, ⟨x, y, u, k TO (by simp) _ t3⟩, turnB_at b1 t4 (k i1 (by simp)), turnB_at b2 t5 (k i2 (by simp)), turnB_at b3 t6 (k i3 (by simp))⟩
  item := by
    rintro X rfl rfl rfl hc i pins s σ H E I hf ⟨t1, t2, ⟨x0, y0, z0, t3⟩, t4, t5, t6⟩ ⟨l1, l2, l3, x, y, v, q1, q2, q3, hx, hy, hv⟩
    obtain ⟨us1, r1, p1, -⟩ := sqB_inv I b1 q1
    obtain ⟨us2, r2, p2, -⟩ := sqB_inv I b2 q2
    obtain ⟨us3, r3, p3, -⟩ := sqB_inv I b3 q3
    have hh : X.A.in1.handled = none := I.ok.hd hc
    have e1 := r1.length
    have e2 := r2.length
    have e3 := r3.length
    have m1 := (List.getElem?_eq_some_iff.mp hx).1
    have m2 := (List.getElem?_eq_some_iff.mp hy).1
    have m3 := (List.getElem?_eq_some_iff.mp hv).1
    refine wpAny_pyNext_zipD3_item S (drawB hh n1 us1.toArray b1) (drawB hh n2 us2.toArray b2) (drawB hh n3 us3.toArray b3) t1 t2 t3 ⟨t4, p1⟩ ⟨t5, p2⟩ ⟨t6, p3⟩ (by simp; omega) (by simp; omega) (by simp; omega) fun u1 u2 u3 h' tk g1 g2 g3 z' o' ⟨f1, _⟩ ⟨f2, _⟩ ⟨f3, _⟩ new _ kp => ?_
    obtain ⟨v1, w1, ru1⟩ := r1.get hx
    obtain ⟨v2, w2, ru2⟩ := r2.get hy
    obtain ⟨v3, w3, ru3⟩ := r3.get hv
    have c1 : v1 = u1 := by simp only [List.getElem?_toArray] at g1; rw [w1] at g1; exact Option.some.inj g1
    have c2 : v2 = u2 := by simp only [List.getElem?_toArray] at g2; rw [w2] at g2; exact Option.some.inj g2
    have c3 : v3 = u3 := by simp only [List.getElem?_toArray] at g3; rw [w3] at g3; exact Option.some.inj g3
    subst c1 c2 c3
    refine ⟨_, rfl, wpAny_letOwnedTupleGo_zip (s := { s with heap := h', toks := tk }) z' fun h'' z'' sb => ?_⟩
    have hz := Heap.lt_size t1
    have new2 := (sb.2 _ (Nat.ne_of_gt hz)).trans new
    refine ⟨.ref s.heap.objs.size, _, I.turnedNew (t' := tk) (ch := [z, TI, TO, i1, i2, i3]) (ob := .frz { cls := .type "tuple", data := .seq #[v1, v2, v3] } (.tup [x, y, v])) (fun c o hb q => ?_) hf (Nat.le_refl _) ⟨new2, by show 3 ≤ sizeLine; decide, [v1, v2, v3], .cons ru1 (.cons ru2 (.cons ru3 .nil)), ⟨_, new2, rfl, _, rfl⟩⟩,
      rfl, ⟨_, _, x, y, v, rfl, I.hok.fresh (Nat.le_refl _), rfl, rfl, rfl, ⟨fun l hl => by rw [sqB_same I b1 hl q1]; exact hx, fun l hl => by rw [sqB_same I b2 hl q2]; exact hy⟩, fun l hl => by rw [sqB_same I b3 hl q3]; exact hv⟩, ⟨z'', ?_, ⟨v1, v2, v3, (sb.2 _ S.TOz).trans o'⟩, turnB_at b1 f1 fun o q => (sb.2 _ S.zi1.symm).trans q, turnB_at b2 f2 fun o q => (sb.2 _ S.zi2.symm).trans q, turnB_at b3 f3 fun o q => (sb.2 _ S.zi3.symm).trans q⟩, fun c hcm => ?_⟩
    · obtain ⟨d1, d2, d3, d4, d5⟩ := out3 hb
      exact (sb.2 c d1).trans (kp c o d1 d2 d3 d4 d5 q)
    · exact (sb.2 _ S.TIz).trans (kp _ _ S.TIz S.TITO S.TIi1 S.TIi2 S.TIi3 t2)
    · have lt : c < s.heap.objs.size := by
        simp only [List.mem_cons, List.not_mem_nil, or_false] at hcm
        rcases hcm with rfl | rfl | rfl | rfl | rfl | rfl
        · exact hz
        · exact Heap.lt_size t2
        · exact Heap.lt_size t3
        · exact turnB_lt b1 t4
        · exact turnB_lt b2 t5
        · exact turnB_lt b3 t6
      rw [upd_ne (Nat.ne_of_lt lt)]
      exact (hf c hcm).1
  done := by
    rintro X rfl rfl rfl hc i pins s σ H E I hf ⟨t1, t2, ⟨x0, y0, z0, t3⟩, t4, t5, t6⟩ ⟨l1, l2, l3, q1, q2, q3, m1, m2, m3, me⟩
    obtain ⟨us1, r1, p1, -⟩ := sqB_inv I b1 q1
    obtain ⟨us2, r2, p2, -⟩ := sqB_inv I b2 q2
    obtain ⟨us3, r3, p3, -⟩ := sqB_inv I b3 q3
    have hh : X.A.in1.handled = none := I.ok.hd hc
    have e1 := r1.length
    have e2 := r2.length
    have e3 := r3.length
    refine wpAny_pyNext_zipD3_end S (drawB hh n1 us1.toArray b1) (drawB hh n2 us2.toArray b2) (drawB hh n3 us3.toArray b3) t1 t2 t3 ⟨t4, p1⟩ ⟨t5, p2⟩ ⟨t6, p3⟩ (by simp; omega) (by simp; omega) (by simp; omega) (by simp; omega) fun h' tk kp => ⟨rfl, I.turnedL (ch := [z, TI, TO, i1, i2, i3]) (fun c o hb q => ?_) hf⟩
    obtain ⟨d1, d2, d3, d4, d5⟩ := out3 hb
    exact kp c o d1 d2 d3 d4 d5 q
  self := fun A i s Q E st h => wpAny_pyIter_zip st.1 h
end
theorem sep3 {n a1 a2 a3 : Addr} (h1 : a1 < n) (h2 : a2 < n) (h3 : a3 < n) : ZipSep3 (n + 5) (n + 3) (n + 4) n (n + 1) (n + 2) [n, a1] [n + 1, a2] [n + 2, a3] := zip_sep3 (fp1 := [a1]) (fp2 := [a2]) (fp3 := [a3]) (by simpa using h1) (by simpa using h2) (by simpa using h3)
theorem le3 {c n : Nat} (h : c ∈ [n + 5, n + 3, n + 4, n, n + 1, n + 2]) : n ≤ c := by simp at h; omega
theorem neA {a n : Nat} (k : Nat) (h : a < n) : a ≠ n + k := by omega
def iZ3 (K : PySem.W.Frag) (ta : TA) : TI := fun σ H R => ta σ H fun vs H1 => ∃ b1 b2 b3 a1 a2 a3 l1 l2 l3, vs = [.ref a1, .ref a2, .ref a3] ∧ SqB K H1 a1 l1 b1 ∧ SqB K H1 a2 l2 b2 ∧ SqB K H1 a3 l3 b3 ∧ R (Zip3 K b1 b2 b3 a1 a2 a3) H1
section
variable {X : Cx} {ta : TA} {p pos tpos : Pos} {elts : List Expr} {kk : Nat}
theorem pi_z3 {e1 e2 e3 : Expr} (hg : Gl X "zip") (hm : X.mg "zip" = none) (ha : PA X [e1, e2, e3] ta)
    (hs : starEach [e1, e2, e3] X.env = (false, eval e1 X.env) :: starEach [e2, e3] X.env := by rfl) (hpl : (backTo pos (starEach [e2, e3] X.env)).any (·.1) = false := by rfl) :
    PI X (.Tuple elts kk tpos) (.Call (.Name "zip" p) [e1, e2, e3] [] pos) (iZ3 X.K ta) := by
  refine ⟨fun pins s σ H R I hq => Call_ (ld_blt I hg hm PyProof.Rows.boot_zip (PyProof.Rows.callWith_type1 (thn (ha.run pos pins s σ H _ I hq) ?_) hs hpl))⟩
  rintro us s1 ⟨vs, H1, I1, rv, b1, b2, b3, a1, a2, a3, l1, l2, l3, rfl, q1, q2, q3, q⟩
  cases rv with
  | cons r rv =>
    cases rv with
    | cons r' rv =>
      cases rv with
      | cons r'' rv =>
        cases rv
        cases r
        cases r'
        cases r''
        obtain ⟨us1, -, p1, m1⟩ := sqB_inv I1 b1 q1
        obtain ⟨us2, -, p2, m2⟩ := sqB_inv I1 b2 q2
        obtain ⟨us3, -, p3, m3⟩ := sqB_inv I1 b3 q3
        refine zip_begins3 (beginB us1.toArray b1) (beginB us2.toArray b2) (beginB us3.toArray b3) p1 p2 p3 fun h' z1 z2 z3 g1 g2 g3 sz kp => wpAny_pyIter_zip z1 ?_
        exact ⟨_, [s1.heap.objs.size + 5, s1.heap.objs.size + 3, s1.heap.objs.size + 4, s1.heap.objs.size, s1.heap.objs.size + 1, s1.heap.objs.size + 2], _, _, H1, rfl, I1.kept (t' := s1.toks) kp, turn3 (sep3 m1 m2 m3) (Nat.ne_of_lt m1) (neA 1 m2) (neA 2 m3), ⟨z1, z2, ⟨_, _, _, z3⟩, turnB_0 b1 g1, turnB_0 b2 g2, turnB_0 b3 g3⟩,
          fun c hc => I1.fpOk (le3 hc) (I1.hok.fresh (le3 hc)), q⟩
end
def gZip : List D → Option (List D)
  | [a, b] => (match gItems a, gItems b with
    | some x, some y => some (List.zipWith (fun u v => .tuple [u, v]) x y)
    | _, _ => none)
  | [a, b, c] => (match gItems a, gItems b, gItems c with
    | some x, some y, some z => some (List.zipWith (fun u (p : D × D) => .tuple [u, p.1, p.2]) x (y.zip z))
    | _, _, _ => none)
  | _ => none
theorem relB {K : KWd} {S : Addr → Prop} {H : Hp} {v : V} {d : D} {ds : List D} (r : RelD K S H v d) (e : gItems d = some ds) : ∃ b a, v = .ref a ∧ (∃ xs, SqB K H a xs b) ∧
    ∀ S' H', RelD K S' H' (.ref a) d → ∃ xs, SqB K H' a xs b ∧ RelDs K S' H' xs ds := by
  cases d with
  | list l =>
    cases e
    obtain ⟨a, xs, rfl, h1, h2⟩ := RR.list (.inl r)
    refine ⟨false, a, rfl, ⟨xs, h1⟩, fun S' H' r' => ?_⟩
    obtain ⟨a', xs', e', h1', h2'⟩ := RR.list (.inl r')
    cases e'
    exact ⟨xs', h1', h2'⟩
  | tuple l =>
    cases e
    obtain ⟨a, xs, rfl, h1, h2⟩ := RR.tuple (.inl r)
    refine ⟨true, a, rfl, ⟨xs, h1⟩, fun S' H' r' => ?_⟩
    obtain ⟨a', xs', e', h1', h2'⟩ := RR.tuple (.inl r')
    cases e'
    exact ⟨xs', h1', h2'⟩
  | _ => cases e
section
variable {K : KWd}
theorem relDs_at {S : Addr → Prop} {H : Hp} {xs : List V} {ds : List D} {i : Nat} (r : RelDs K S H xs ds) (h : i < ds.length) : ∃ v, xs[i]? = some v ∧ RelD K S H v ds[i] := r.get (List.getElem?_eq_getElem h)
theorem it_z3 {b1 b2 b3 : Bool} {a1 a2 a3 : Addr} {d1 d2 d3 : D} {x y z : List D} (k1 : ∀ S' H', RelD K S' H' (.ref a1) d1 → ∃ xs, SqB K H' a1 xs b1 ∧ RelDs K S' H' xs x) (k2 : ∀ S' H', RelD K S' H' (.ref a2) d2 → ∃ xs, SqB K H' a2 xs b2 ∧ RelDs K S' H' xs y)
    (k3 : ∀ S' H', RelD K S' H' (.ref a3) d3 → ∃ xs, SqB K H' a3 xs b3 ∧ RelDs K S' H' xs z) :
    ItOk K (Zip3 K b1 b2 b3 a1 a2 a3) (List.zipWith (fun u (p : D × D) => .tuple [u, p.1, p.2]) x (y.zip z)) [(.inl (.ref a1, d1)), (.inl (.ref a2, d2)), (.inl (.ref a3, d3))] := by
  refine ⟨fun i S H r hi => ?_, fun S H r => ?_, fun i S H v H' r hS hi y' => ?_⟩
  · obtain ⟨l1, s1, c1⟩ := k1 S H (r (.inl (.ref a1, d1)) (by simp))
    obtain ⟨l2, s2, c2⟩ := k2 S H (r (.inl (.ref a2, d2)) (by simp))
    obtain ⟨l3, s3, c3⟩ := k3 S H (r (.inl (.ref a3, d3)) (by simp))
    simp only [List.length_zipWith, List.length_zip] at hi
    obtain ⟨v1, e1, _⟩ := relDs_at c1 (show i < x.length by omega)
    obtain ⟨v2, e2, _⟩ := relDs_at c2 (show i < y.length by omega)
    obtain ⟨v3, e3, _⟩ := relDs_at c3 (show i < z.length by omega)
    exact ⟨l1, l2, l3, v1, v2, v3, s1, s2, s3, e1, e2, e3⟩
  · obtain ⟨l1, s1, c1⟩ := k1 S H (r (.inl (.ref a1, d1)) (by simp))
    obtain ⟨l2, s2, c2⟩ := k2 S H (r (.inl (.ref a2, d2)) (by simp))
    obtain ⟨l3, s3, c3⟩ := k3 S H (r (.inl (.ref a3, d3)) (by simp))
    have m1 := c1.length
    have m2 := c2.length
    have m3 := c3.length
    refine ⟨l1, l2, l3, s1, s2, s3, ?_, ?_, ?_, ?_⟩ <;> simp only [List.length_zipWith, List.length_zip] <;> omega
  · obtain ⟨l1, s1, c1⟩ := k1 S H (r (.inl (.ref a1, d1)) (by simp))
    obtain ⟨l2, s2, c2⟩ := k2 S H (r (.inl (.ref a2, d2)) (by simp))
    obtain ⟨l3, s3, c3⟩ := k3 S H (r (.inl (.ref a3, d3)) (by simp))
    simp only [List.length_zipWith, List.length_zip] at hi
    obtain ⟨T, o, v1, v2, v3, rfl, hT, ho, hd, rfl, ⟨f1, f2⟩, f3⟩ := y'
    obtain ⟨u1, e1, g1⟩ := relDs_at c1 (show i < x.length by omega)
    obtain ⟨u2, e2, g2⟩ := relDs_at c2 (show i < y.length by omega)
    obtain ⟨u3, e3, g3⟩ := relDs_at c3 (show i < z.length by omega)
    cases (f1 l1 s1).symm.trans e1
    cases (f2 l2 s2).symm.trans e2
    cases (f3 l3 s3).symm.trans e3
    refine ⟨Ext.new hT, .tuple [x[i], y[i], z[i]], ?_, .tup (fun z => hS T z hT) ⟨o, upd_same, ho, hd⟩ (RelDs.ext (Ext.new hT) (.cons g1 (.cons g2 (.cons g3 .nil))))⟩
    rw [List.getElem?_zipWith, List.getElem?_eq_getElem (show i < x.length by omega), List.getElem?_eq_getElem (show i < (y.zip z).length by simp only [List.length_zip]; omega), List.getElem_zip]
end
section
variable {X : Cx} {F : Frm} {pos p tpos : Pos} {elts : List Expr} {kk : Nat}
theorem w_zip3 {a b c : Expr} {m : M (List D)} {eff : List Nat} (hlen : MLen 3 m) (hg : Gl X "zip") (hm : X.mg "zip" = none) (ha : PA X [a, b, c] (rdA F m [] eff)) (hs : starEach [a, b, c] X.env = (false, eval a X.env) :: starEach [b, c] X.env := by rfl) (hpl : (backTo pos (starEach [b, c] X.env)).any (·.1) = false := by rfl) (hK : X.kw = F.K := by rfl) :
    PI X (.Tuple elts kk tpos) (.Call (.Name "zip" p) [a, b, c] [] pos) (rdI F (mRange gZip m) eff) := by
  refine PI.mono (pi_z3 hg hm ha hs hpl) fun σ H R ⟨B, A, ρ, ds, ρ', E, hm, k⟩ => ?_
  obtain ⟨l, q, q2⟩ := mRange_some hm
  refine ⟨B, A, ρ, l, ρ', E, q, fun vs H1 P1 r1 => ?_⟩
  have rs := Val.plains r1
  match l, hlen _ _ _ q with
  | [d1, d2, d3], _ =>
    unfold gZip at q2
    simp only at q2
    split at q2
    · rename_i x y z e1 e2 e3
      cases q2
      cases rs with
      | cons c1 rs => cases rs with
        | cons c2 rs => cases rs with
          | cons c3 rs =>
            cases rs
            obtain ⟨b1, a1, rfl, ⟨xs1, s1⟩, k1⟩ := relB c1 e1
            obtain ⟨b2, a2, rfl, ⟨xs2, s2⟩, k2⟩ := relB c2 e2
            obtain ⟨b3, a3, rfl, ⟨xs3, s3⟩, k3⟩ := relB c3 e3
            rw [hK.kwK]
            exact ⟨b1, b2, b3, a1, a2, a3, xs1, xs2, xs3, rfl, s1, s2, s3, k _ [(.inl (.ref a1, d1)), (.inl (.ref a2, d2)), (.inl (.ref a3, d3))] H1 P1 (by simp; exact ⟨c1, c2, c3⟩) (it_z3 k1 k2 k3)⟩
    · cases q2
end
end PD
set_option Elab.async false
set_option linter.all false
set_option maxRecDepth 100000
set_option maxHeartbeats 4000000
namespace PD
open PySem PySem.Spec PyProof.Rows L2 GxR GenX OwnK
open PySem.Sem (wp)
def enumO (n : Addr) : Obj := { cls := .type "enumerate", data := .fields #[.none, .bool false, .ref n, rawInt 0, .none, .none] }
theorem enum_new1 {v : Value} {o : Obj} {G : Heap → Prop} (B : Begins v o G) :
    Meets (Builtin.«enumerate.__new__» ⟨[.type "enumerate", v], []⟩) (fun _ R s => G s.heap ∧ R (.ok (.ret (.ref (s.heap.push o).objs.size))) { s with heap := (s.heap.push o).push (enumO s.heap.objs.size) }) :=
  .of_wp fun prog w A R ⟨hp, g, d, tk, os⟩ ⟨hG, hR⟩ => by
    have st := sub_enumerate
    have go : ∀ {A1 : Around} {E : Value → Shared → Prop} {Q : Value → Shared → Prop}, Q (.ref hp.objs.size) ⟨hp.push o, g, d, tk, os⟩ → wpAny (model prog w) A1 (pyIter v) Q E ⟨hp, g, d, tk, os⟩ := fun q => B.iter prog w _ _ ⟨hp, g, d, tk, os⟩ _ hG q
    wp_walk using go
    refine wpAny_stack_any fun ks => wpAny_pure ?_
    split
    · generalize (_ == Value.type "enumerate") = q
      cases q <;> (wp_walk using go) <;> exact ⟨_, rfl, hR⟩
    · (wp_walk using go) <;> exact ⟨_, rfl, hR⟩
theorem enum_begins1 {prog : Program} {w : World} {A : Around} {E : Value → Shared → Prop} {s : Shared} {v : Value} {o : Obj} {G : Heap → Prop} {Q : Value → Shared → Prop} (B : Begins v o G) (hG : G s.heap)
    (k : ∀ h', IsEnum h' (s.heap.objs.size + 1) s.heap.objs.size 0 .none → h'.get? s.heap.objs.size = some o → (∀ b u, s.heap.get? b = some u → h'.get? b = some u) → Q (.ref (s.heap.objs.size + 1)) { s with heap := h' }) :
    wpAny (model prog w) A (call (.type "enumerate") [v]) Q E s := by
  refine callType_new F.called_enumerate (by decide) (F.typeCall_enumerate_1 _) (F.newCall_enumerate_1 _) (fun x => F.args_object_init_2 x _) F.entry_enumerate_new (enum_new1 B) ⟨hG, ?_⟩
  have sz : (s.heap.push o).objs.size = s.heap.objs.size + 1 := Heap.size_push ..
  have he : ((s.heap.push o).push (enumO s.heap.objs.size)).get? (s.heap.push o).objs.size = some (enumO s.heap.objs.size) := Heap.get?_push_size _ rfl
  show _ ∧ _
  rw [sz] at he ⊢
  exact ⟨⟨_, he, rfl⟩, k _ he (Heap.get?_push_of_some _ (Heap.get?_push_size _ B.free)) fun b u x => Heap.get?_push_of_some _ (Heap.get?_push_of_some _ x)⟩
def Enum1 (K : PySem.W.Frag) (b : Bool) (a : Addr) : It where
  go i H := ∃ l x, SqB K H a l b ∧ l[i]? = some x
  yld i H v H' := ∃ T o x, v = .ref T ∧ H T = none ∧ o.cls = .type "tuple" ∧ o.dict = none ∧ H' = upd H T (.frz o (.tup [.int (i : Nat), x])) ∧ ∀ l, SqB K H a l b → l[i]? = some x
  stop i H := ∃ l, SqB K H a l b ∧ i = l.length
theorem turn1 {P : Program} {w : World} {K : PySem.W.Frag} {elts : List Expr} {kk : Nat} {tpos : Pos} {b : Bool} {a e it : Addr} (n0 : e ≠ it) (n1 : a ≠ it) (n2 : e ≠ a) :
    Turn P w K (.Tuple elts kk tpos) (Enum1 K b a) [e, it] e (fun i h => (∃ old, IsEnum h e it ((i : Nat) : Int) old) ∧ turnB h it a i b) where
  mem := List.mem_cons_self
  obj := fun i h ⟨⟨old, t1⟩, t2⟩ c hc => by
    simp only [List.mem_cons, List.not_mem_nil, or_false] at hc
    rcases hc with rfl | rfl
    · exact ⟨_, t1, nofun⟩
    · exact turnB_obj b t2
  keep := fun i h h' ⟨⟨old, t1⟩, t2⟩ k => ⟨⟨old, k e (by simp) _ t1⟩, turnB_at b t2 (k it (by simp))⟩
  item := by
    rintro X rfl rfl rfl hc i pins s σ H E I hf ⟨⟨old, t1⟩, t2⟩ ⟨l, x, q, hx⟩
    obtain ⟨us, r, p, -⟩ := sqB_inv I b q
    have hh : X.A.in1.handled = none := I.ok.hd hc
    have e1 := r.length
    have m1 := (List.getElem?_eq_some_iff.mp hx).1
    refine wpAny_pyNext_enum_itemD (drawB hh n1 us.toArray b) t1 ⟨t2, p⟩ (by simp; omega) n0 (by simp; exact ⟨n0, n2⟩) fun u h' tk g1 o' ⟨f1, _⟩ new _ kp => ?_
    obtain ⟨v1, w1, ru⟩ := r.get hx
    have c1 : v1 = u := by simp only [List.getElem?_toArray] at g1; rw [w1] at g1; exact Option.some.inj g1
    subst c1
    refine ⟨_, rfl, wpAny_letOwnedTupleGo_enum (s := { s with heap := h', toks := tk + 1 }) o' fun h'' e'' sb => ?_⟩
    have hz := Heap.lt_size t1
    have new2 := (sb.2 _ (Nat.ne_of_gt hz)).trans new
    refine ⟨.ref s.heap.objs.size, _, I.turnedNew (t' := tk + 1) (ch := [e, it]) (ob := .frz { cls := .type "tuple", data := .seq #[.int i tk, v1] } (.tup [.int (i : Nat), x])) (fun c o hb q => ?_) hf (Nat.le_refl _) ⟨new2, by show 2 ≤ sizeLine; decide, [.int i tk, v1], .cons ⟨_, rfl⟩ (.cons ru .nil), ⟨_, new2, rfl, _, rfl⟩⟩,
      rfl, ⟨_, _, x, rfl, I.hok.fresh (Nat.le_refl _), rfl, rfl, rfl, fun l' hl => by rw [sqB_same I b hl q]; exact hx⟩, ⟨⟨v1, ?_⟩, turnB_at b f1 fun o q => (sb.2 _ n0.symm).trans q⟩, fun c hcm => ?_⟩
    · simp at hb
      exact (sb.2 c hb.1).trans (kp c o hb.1 hb.2 q)
    · have z : ((i + 1 : Nat) : Int) = (i : Int) + 1 := by omega
      rw [z]
      exact e''
    · have lt : c < s.heap.objs.size := by
        simp only [List.mem_cons, List.not_mem_nil, or_false] at hcm
        rcases hcm with rfl | rfl
        · exact hz
        · exact turnB_lt b t2
      rw [upd_ne (Nat.ne_of_lt lt)]
      exact (hf c hcm).1
  done := by
    rintro X rfl rfl rfl hc i pins s σ H E I hf ⟨⟨old, t1⟩, t2⟩ ⟨l, q, me⟩
    obtain ⟨us, r, p, -⟩ := sqB_inv I b q
    have hh : X.A.in1.handled = none := I.ok.hd hc
    have e1 := r.length
    have z : i = us.toArray.size := by simp; omega
    refine wpAny_pyNext_enum_endD (drawB hh n1 us.toArray b) t1 (by rw [← z]; exact ⟨t2, p⟩) fun h' eb => ⟨rfl, I.turnedL (t' := s.toks) (ch := [e, it]) (fun c o hb q => ?_) hf⟩
    simp at hb
    exact eb c o hb.2 q
  self := fun A i s Q E ⟨⟨_, t1⟩, _⟩ h => wpAny_pyIter_enum t1 h
def iE1 (K : PySem.W.Frag) (ta : TA) : TI := fun σ H R => ta σ H fun vs H1 => ∃ b a l, vs = [.ref a] ∧ SqB K H1 a l b ∧ R (Enum1 K b a) H1
theorem le1 {c n : Nat} (h : c ∈ [n + 1, n]) : n ≤ c := by simp at h; omega
theorem pi_e1 {X : Cx} {ta : TA} {p pos tpos : Pos} {elts : List Expr} {kk : Nat} {e1 : Expr} (hg : Gl X "enumerate") (hm : X.mg "enumerate" = none) (ha : PA X [e1] ta) (hs : starEach [e1] X.env = [(false, eval e1 X.env)] := by rfl) :
    PI X (.Tuple elts kk tpos) (.Call (.Name "enumerate" p) [e1] [] pos) (iE1 X.K ta) := by
  refine ⟨fun pins s σ H R I hq => Call_ (ld_blt I hg hm boot_enumerate (PyProof.Rows.callWith_type1 (thn (ha.run pos pins s σ H _ I hq) ?_) hs rfl))⟩
  rintro us s1 ⟨vs, H1, I1, rv, b, a, l, rfl, q1, q⟩
  cases rv with
  | cons r rv =>
    cases rv
    cases r
    obtain ⟨us1, -, p1, m1⟩ := sqB_inv I1 b q1
    refine enum_begins1 (beginB us1.toArray b) p1 fun h' z1 g1 kp => wpAny_pyIter_enum z1 ?_
    exact ⟨_, [s1.heap.objs.size + 1, s1.heap.objs.size], _, _, H1, rfl, I1.kept (t' := s1.toks) kp, turn1 (Nat.succ_ne_self _) (Nat.ne_of_lt m1) (Nat.ne_of_gt (Nat.lt_succ_of_lt m1)), ⟨⟨_, z1⟩, turnB_0 b g1⟩, fun c hc => I1.fpOk (le1 hc) (I1.hok.fresh (le1 hc)), q⟩
def gEnum : List D → Option (List D)
  | [a] => (match gItems a with
    | some x => some (List.zipWith (fun (i : Nat) u => .tuple [.int i, u]) (List.range x.length) x)
    | none => none)
  | _ => none
theorem it_e1 {K : KWd} {b : Bool} {a : Addr} {d : D} {x : List D} (k1 : ∀ S' H', RelD K S' H' (.ref a) d → ∃ xs, SqB K H' a xs b ∧ RelDs K S' H' xs x) :
    ItOk K (Enum1 K b a) (List.zipWith (fun (i : Nat) u => .tuple [.int i, u]) (List.range x.length) x) [.inl (.ref a, d)] := by
  refine ⟨fun i S H r hi => ?_, fun S H r => ?_, fun i S H v H' r hS hi y' => ?_⟩
  · obtain ⟨l1, s1, c1⟩ := k1 S H (r _ List.mem_cons_self)
    simp only [List.length_zipWith, List.length_range, Nat.min_self] at hi
    obtain ⟨v1, e1, _⟩ := relDs_at c1 hi
    exact ⟨l1, v1, s1, e1⟩
  · obtain ⟨l1, s1, c1⟩ := k1 S H (r _ List.mem_cons_self)
    have m1 := c1.length
    refine ⟨l1, s1, ?_⟩
    simp only [List.length_zipWith, List.length_range, Nat.min_self]
    omega
  · obtain ⟨l1, s1, c1⟩ := k1 S H (r _ List.mem_cons_self)
    simp only [List.length_zipWith, List.length_range, Nat.min_self] at hi
    obtain ⟨T, o, v1, rfl, hT, ho, hd, rfl, f1⟩ := y'
    obtain ⟨u1, e1, g1⟩ := relDs_at c1 hi
    cases (f1 l1 s1).symm.trans e1
    refine ⟨Ext.new hT, .tuple [.int (i : Nat), x[i]], ?_, .tup (fun z => hS T z hT) ⟨o, upd_same, ho, hd⟩ (RelDs.ext (Ext.new hT) (.cons (.int _) (.cons g1 .nil)))⟩
    rw [List.getElem?_zipWith, List.getElem?_eq_getElem (show i < (List.range x.length).length by simpa using hi), List.getElem?_eq_getElem hi]
    simp
theorem w_enum {X : Cx} {F : Frm} {pos p tpos : Pos} {elts : List Expr} {kk : Nat} {a : Expr} {m : M (List D)} {eff : List Nat} (hlen : MLen 1 m) (hg : Gl X "enumerate") (hm : X.mg "enumerate" = none) (ha : PA X [a] (rdA F m [] eff)) (hs : starEach [a] X.env = [(false, eval a X.env)] := by rfl) (hK : X.kw = F.K := by rfl) :
    PI X (.Tuple elts kk tpos) (.Call (.Name "enumerate" p) [a] [] pos) (rdI F (mRange gEnum m) eff) := by
  refine PI.mono (pi_e1 hg hm ha hs) fun σ H R ⟨B, A, ρ, ds, ρ', E, hm, k⟩ => ?_
  obtain ⟨l, q, q2⟩ := mRange_some hm
  refine ⟨B, A, ρ, l, ρ', E, q, fun vs H1 P1 r1 => ?_⟩
  have rs := Val.plains r1
  match l, hlen _ _ _ q with
  | [d1], _ =>
    unfold gEnum at q2
    simp only at q2
    split at q2
    · rename_i x e1
      cases q2
      cases rs with
      | cons c1 rs =>
        cases rs
        obtain ⟨b1, a1, rfl, ⟨xs1, s1⟩, k1⟩ := relB c1 e1
        rw [hK.kwK]
        exact ⟨b1, a1, xs1, rfl, s1, k _ [.inl (.ref a1, d1)] H1 P1 (fun r hr => by rw [List.mem_singleton.mp hr]; exact c1) (it_e1 k1)⟩
    · cases q2
end PD
set_option Elab.async false
set_option linter.all false
set_option maxRecDepth 100000
set_option maxHeartbeats 2000000
namespace PD
open PySem PySem.Spec PyProof.Rows L2 GxR GenX OwnK
section
variable {X : Cx} {F : Frm} {pos xp pos' : Pos}
end
end PD
set_option Elab.async false
set_option linter.all false
set_option maxRecDepth 100000
set_option maxHeartbeats 2000000
namespace PD
open PySem PySem.Spec PyProof.Rows L2 GxR GenX OwnK
def tdD (es : List (D × D)) : D := .dict ((.list [], .none) :: es)
def keysD : List D → Option (List Key)
  | [] => some []
  | d :: r => match keyD d, keysD r with
    | some k, some l => some (k :: l)
    | _, _ => none
def keyT : D → Option (List Key)
  | .tuple ds => keysD ds
  | _ => none
def dgetT : List (D × D) → List Key → Option D
  | [], _ => none
  | (kd, d) :: r, k => if keyT kd = some k then some d else dgetT r k
def tdE : D → Option (List (D × D))
  | .dict [] => some []
  | .dict ((.list [], .none) :: es) => some es
  | _ => none
section
variable {K : KWd} {S : Addr → Prop} {H : Hp}
def HT (w : World) (H : Hp) (a : Addr) (xs : List (List Key × Addr × Value)) : Prop := Rd H a (.ext (TDict w a xs)) ∨ (xs = [] ∧ Rd H a (.dK []))
theorem keyT_keys (ks : List Key) : keyT (.tuple (ks.map kD)) = some ks := by
  show keysD (ks.map kD) = some ks
  induction ks with
  | nil => rfl
  | cons k r ih =>
    show (match keyD (kD k), keysD (r.map kD) with
      | some k, some l => some (k :: l)
      | _, _ => none) = _
    rw [ih, keyD_kD]
def kI (ks : List Int) : List Key := ks.map .inl
theorem kI_inj : ∀ {a b : List Int}, kI a = kI b → a = b
  | [], [], _ => rfl
  | [], _ :: _, h => by cases h
  | _ :: _, [], h => by cases h
  | x :: a, y :: b, h => by
    have h : (Sum.inl x : Key) :: kI a = Sum.inl y :: kI b := h
    injection h with h1 h2
    rw [Sum.inl.inj h1, kI_inj h2]
theorem kI_kD (ks : List Int) : (kI ks).map kD = ks.map .int := by
  unfold kI; rw [List.map_map]; rfl
theorem keyT_ints (ks : List Int) : keyT (.tuple (ks.map .int)) = some (kI ks) := by
  rw [← kI_kD]; exact keyT_keys (kI ks)
theorem keysD_some : ∀ {ds : List D} {ks : List Key}, keysD ds = some ks → ds = ks.map kD
  | [], _, h => by cases h; rfl
  | d :: r, ks, h => by
    unfold keysD at h
    split at h
    · rename_i k l e1 e2
      cases h
      rw [List.map_cons, keyD_some e1, keysD_some e2]
    · cases h
theorem keyT_some {kd : D} {ks : List Key} (h : keyT kd = some ks) : kd = .tuple (ks.map kD) := by
  cases kd with
  | tuple ds => rw [keysD_some (show keysD ds = some ks from h)]
  | _ => cases h
theorem rels_kD {K : KWd} {S : Addr → Prop} {H : Hp} : ∀ {ks : List Key} {xs : List V}, RelDs K S H xs (ks.map kD) → xs = ks.map kV
  | [], _, h => by cases h; rfl
  | k :: r, _, h => by
    rw [List.map_cons] at h
    cases h with
    | cons h t => rw [rels_kD t, List.map_cons, (RR.key (.inl h))]
theorem RR.keyAt {v : V} {ks : List Key} (r : RR K S H v (.tuple (ks.map kD))) : ∃ b, v = .ref b ∧ KeyAt K S H b ks := by
  have e : ∀ {xs : List V}, RelDs K S H xs (ks.map kD) → xs = ks.map kV := rels_kD
  rcases r with r | ⟨a, e, r⟩
  · cases r with
    | tup n s r => rw [e r] at s; exact ⟨_, rfl, .inl ⟨n, s⟩⟩
    | tupK s r => rw [e r] at s; exact ⟨_, rfl, .inr s⟩
  · exact r.elim
theorem RR.td {v : V} {d : D} {es : List (D × D)} (r : RR K S H v d) (h : tdE d = some es) : ∃ a xs, v = .ref a ∧ HT K.w H a xs ∧ RelTs K S H xs es := by
  unfold tdE at h
  split at h
  · cases h
    rcases r.dict2 with ⟨a, kvs, e, h1, h2⟩ | ⟨a, xs, e, h1, h2⟩
    · cases h2
      exact ⟨a, [], e, .inr ⟨rfl, h1⟩, .nil⟩
    · cases h2
  · cases h
    rcases r.dict2 with ⟨a, kvs, e, h1, h2⟩ | ⟨a, xs, e, h1, h2⟩
    · exact absurd h2 (by
        intro z
        have : ∀ {k : D} {d : D} {r : List (D × D)} {kvs}, RelKs K S H kvs ((k, d) :: r) → ∃ q, k = kD q := fun h => by cases h; exact ⟨_, rfl⟩
        obtain ⟨q, hq⟩ := this z
        cases q <;> cases hq)
    · cases h2 with
      | mk h2 => exact ⟨a, xs, e, .inl h1, h2⟩
  · cases h
theorem RelTs.get : ∀ {xs : List (List Key × Addr × Value)} {ds : List (D × D)} (k : List Key), RelTs K S H xs ds → (atKey xs k = none ∧ dgetT ds k = none) ∨ ∃ b u v d, atKey xs k = some (b, u) ∧ dgetT ds k = some d ∧ RelV v u ∧ RelD K S H v d
  | _, _, k, .nil => .inl ⟨rfl, rfl⟩
  | _, _, k, .cons (ks := k0) (b := b) (u := u) (v := v) (d := d) s q r t => by
    by_cases e : k0 = k
    · subst e
      exact .inr ⟨b, u, v, d, by simp [atKey], by unfold dgetT; rw [keyT_keys, if_pos rfl], q, r⟩
    · have e1 : ∀ xs, atKey ((k0, b, u) :: xs) k = atKey xs k := fun xs => by simp [atKey, List.find?_cons, e]
      have e2 : ∀ ds, dgetT ((.tuple (k0.map kD), d) :: ds) k = dgetT ds k := fun ds => by
        conv => lhs; unfold dgetT
        rw [keyT_keys, if_neg (fun z => e (Option.some.inj z))]
      rw [e1, e2]
      exact RelTs.get k t
theorem RelTs.keys : ∀ {xs : List (List Key × Addr × Value)} {ds : List (D × D)}, RelTs K S H xs ds → ∀ x ∈ xs, KeyAt K S H x.2.1 x.1
  | _, _, .nil, x, hx => by cases hx
  | _, _, .cons s _ _ t, x, hx => by
    rcases List.mem_cons.mp hx with e | hx
    · subst e; exact s
    · exact RelTs.keys t x hx
theorem RelTs.length : ∀ {xs : List (List Key × Addr × Value)} {ds : List (D × D)}, RelTs K S H xs ds → xs.length = ds.length
  | _, _, .nil => rfl
  | _, _, .cons _ _ _ t => congrArg (· + 1) t.length
end
section
variable {X : Cx} {F : Frm} {pos p : Pos} {S : Addr → Prop} {H : Hp} {pins : List (Addr × Obj)} {σ : L2.St} {s : Shared}
theorem key_ofT (I : Inv X pins σ H s) {b : Addr} {ks : List Key} (h : KeyAt X.kw S H b ks) : (PySem.tupleKind (L2.mixKind X.prog X.w)).is s.heap ks b := by
  have h : SqT X.K H b (ks.map kV) := by
    rcases h with ⟨_, h⟩ | h
    · exact .inl h.rd
    · exact .inr h.sq
  obtain ⟨its, r, ⟨o, h1, h2, n, h3⟩, _⟩ := I.tuple h
  exact ⟨o, its.toArray, n, h1, h2, h3, by simpa using L2.items_are r⟩
theorem td_at {a : Addr} {xs : List (List Key × Addr × Value)} {es : List (D × D)} (I : Inv X pins σ H s) (h : HT X.w H a xs) (r : RelTs X.kw S H xs es) :
    (a == sysModules) = false ∧ xs.length ≤ sizeLine ∧ s.heap.DictOfH (PySem.tupleKind (L2.mixKind X.prog X.w)) a xs := by
  have hk : RelTs X.kw S H xs es → ∀ x ∈ xs, (PySem.tupleKind (L2.mixKind X.prog X.w)).is s.heap x.1 x.2.1 := fun r x hx => key_ofT I (r.keys x hx)
  rcases h with h | ⟨rfl, h⟩
  · obtain ⟨⟨hd, hl, o, es', ep, h1, h2, h3, h4, h5⟩, _⟩ := (show ObjOk X.prog X.w H s.heap a (.ext (TDict X.w a xs)) from h.ok I.hok)
    exact ⟨hd, hl, o, es', ep, h1, h2, h3, h4, hk r, h5⟩
  · obtain ⟨z, hd, vs, rel, o, es', ep, h1, h2, h3, _, h4, _⟩ := dk_rd I.hok h
    have e : vs = [] := by cases rel; rfl
    subst e
    refine ⟨hd, Nat.zero_le _, o, es', ep, h1, h2, h3, ?_, fun x hx => (nomatch hx), List.nodup_nil⟩
    generalize es'.toList = l at h4
    cases h4; rfl
def gIxT (o kd : D) : Option D := match keyT kd, tdE o with
  | some ks, some es => dgetT es ks
  | _, _ => none
theorem RelTs.isSome {K : KWd} {xs : List (List Key × Addr × Value)} {es : List (D × D)} (r : RelTs K S H xs es) (ks : List Key) : (atKey xs ks).isSome = (dgetT es ks).isSome := by
  rcases r.get ks with ⟨g1, g2⟩ | ⟨b, u, v, d, g1, g2, _⟩ <;> rw [g1, g2] <;> rfl
theorem o_ixT {K : KWd} (hu : X.A.units + 1 < cLine) (hK : X.kw = K := by rfl) : IxR X (rop K gIxT) := by
  subst hK
  intro value slice pins s σ H x y v u Q I rx ry ⟨S, d1, d2, d, r1, r2, e, occ, k⟩ hs
  unfold gIxT at e
  split at e
  · rename_i ks es e1 e2
    have e3 := keyT_some e1
    subst e3
    obtain ⟨b, rfl, hb⟩ := r2.keyAt
    obtain ⟨a, xs, rfl, hT, rt⟩ := r1.td e2
    cases rx
    cases ry
    obtain ⟨hd, hl, dd⟩ := td_at I hT rt
    rcases rt.get ks with ⟨g1, g2⟩ | ⟨b2, u2, v2, d2, g1, g2, rv, rd⟩
    · rw [e] at g2; cases g2
    · rw [e] at g2
      cases g2
      have hTy := dd.typeIs
      unfold subscriptTail
      refine wpAny_bind ?_
      rw [getitemInPython_of_ne hTy.not_modules]
      refine wpAny_bind (wpAny_specialOf hTy PySem.F.slot_dict_getitem.lookup ?_)
      have fin : wpAny (model X.prog X.w) X.A (subscripted slice false (.ref a) (.ref b)) (fun r s₃ => wpAny (model X.prog X.w) X.A (letTemporaryGo value (.ref a) r >>= fun _ => pure r) (EP X pins σ Q) X.xe s₃) X.xe s := by
        rw [hs]
        exact wpAny_operating (PySem.wpAny_getItem_heap (PySem.tupleKind_room_in1 hu) (key_ofT I hb) dd g1 (wpAny_bind (wpAny_letTemporaryGo (wpAny_pure ⟨v2, H, I.tok _, rv, k v2 H (Ext.refl H) rd⟩))))
      first
        | exact wpAny_pure (wpAny_bind fin)
        | exact wpAny_bind (wpAny_pure (wpAny_bind fin))
        | exact wpAny_bind fin
  · cases e
def dputT (es : List (D × D)) (ks : List Key) (d : D) : List (D × D) := if (dgetT es ks).isSome then es.map (fun e => if keyT e.1 = some ks then (e.1, d) else e) else es ++ [(.tuple (ks.map kD), d)]
def gPutT (o kd d : D) : Option D := match keyT kd, tdE o with
  | some ks, some es => if es.length < sizeLine then some (tdD (dputT es ks d)) else none
  | _, _ => none
theorem RelTs.append {K : KWd} : ∀ {xs ys : List (List Key × Addr × Value)} {ds es : List (D × D)}, RelTs K S H xs ds → RelTs K S H ys es → RelTs K S H (xs ++ ys) (ds ++ es)
  | _, _, _, _, .nil, s => s
  | _, _, _, _, .cons q w r t, s => .cons q w r (RelTs.append t s)
theorem RelTs.mapPut {K : KWd} {k : List Key} {v : V} {u : Value} {d : D} (rv : RelV v u) (r : RelD K S H v d) : ∀ {xs : List (List Key × Addr × Value)} {ds : List (D × D)}, RelTs K S H xs ds →
    RelTs K S H (xs.map (putAt k u)) (ds.map fun e => if keyT e.1 = some k then (e.1, d) else e)
  | _, _, .nil => .nil
  | _, _, .cons (ks := k0) q w0 r0 t => by
    rw [List.map_cons, List.map_cons, keyT_keys]
    unfold putAt
    by_cases h : k0 = k
    · rw [if_pos h, if_pos (by rw [h])]
      exact .cons q rv r (RelTs.mapPut rv r t)
    · rw [if_neg h, if_neg (fun z => h (Option.some.inj z))]
      exact .cons q w0 r0 (RelTs.mapPut rv r t)
theorem RelTs.put {K : KWd} {k : List Key} {b : Addr} {v : V} {u : Value} {d : D} (hb : KeyAt K S H b k) (rv : RelV v u) (r : RelD K S H v d) {xs : List (List Key × Addr × Value)} {ds : List (D × D)} (q : RelTs K S H xs ds) : RelTs K S H (storedH xs k b u) (dputT ds k d) := by
  unfold storedH dputT
  rw [q.isSome k]
  cases (dgetT ds k).isSome with
  | true => exact RelTs.mapPut rv r q
  | false => exact RelTs.append q (.cons hb rv r .nil)
theorem td_ok {P : Program} {w : World} {H' : Hp} {h' : Heap} {a : Addr} {xs : List (List Key × Addr × Value)} (hd : (a == sysModules) = false) (hl : xs.length ≤ sizeLine) (dd : h'.DictOfH (PySem.tupleKind (L2.mixKind P w)) a xs) : ObjOk P w H' h' a (.ext (TDict w a xs)) := by
  obtain ⟨o, es, ep, h1, h2, h3, h4, _, h5⟩ := dd
  exact ⟨⟨hd, hl, o, es, ep, h1, h2, h3, h4, h5⟩, ⟨o, h1⟩, fun g1 g2 ⟨hd, hl, o, es, ep, h1, r⟩ k => ⟨hd, hl, o, es, ep, k _ h1, r⟩⟩
theorem storedH_len (xs : List (List Key × Addr × Value)) (k : List Key) (b : Addr) (u : Value) : (storedH xs k b u).length ≤ xs.length + 1 := by
  unfold storedH
  split <;> simp
theorem td_setItem {a b : Addr} {xs : List (List Key × Addr × Value)} {es : List (D × D)} {ks : List Key} {u : Value} {Q : Unit → Shared → Prop} {A : Around} {E : Value → Shared → Prop} (hu : A.units + 1 < cLine) (I : Inv X pins σ H s) (h : H a = some (.ext (TDict X.w a xs)) ∨ (xs = [] ∧ H a = some (.dK []))) (r : RelTs X.kw S H xs es) (hb : KeyAt X.kw S H b ks) (hl : xs.length < sizeLine)
    (q : ∀ s', Inv X pins σ (upd H a (.ext (TDict X.w a (storedH xs ks b u)))) s' → Q () s') : wpAny (model X.prog X.w) A (setItem (.ref a) (.ref b) u) Q E s := by
  obtain ⟨hd, hl0, dd⟩ := td_at I (h.imp .inl fun ⟨e, h⟩ => ⟨e, .inl h⟩) r
  have mu : Mut (H a) := by
    rcases h with h | ⟨_, h⟩ <;> (rw [h]; exact True.intro)
  refine PySem.wpAny_setItem_heap (hsz := hl0) (PySem.tupleKind_room_in1 hu) (key_ofT I hb) dd fun h' dd' hs => q _ ?_
  have he : ∃ q, h'.get? a = some q := let ⟨q, _, _, hq, _⟩ := dd'; ⟨q, hq⟩
  exact d_write I mu hs he (td_ok hd (by have := storedH_len xs ks b u; omega) dd')
theorem gPutT_notB {o kd d o' : D} (h : gPutT o kd d = some o') : isBg o = false := by
  cases o with
  | tuple xs =>
    unfold gPutT at h
    split at h
    · rename_i e2
      cases (show (none : Option (List (D × D))) = some _ from e2)
    · cases h
  | _ => rfl
theorem putT_ok {A : Nat → Addr} {σ : L2.St} {B : List Addr} {H : Hp} {ρ : Rho} {i : Nat} {o kd d o' : D} {kv v : V} (E : Ev F B A σ H ρ) (e : ρ[i]? = some (some (true, o))) (hg : gPutT o kd d = some o') (rk : RR F.K (Av F B A ρ) H kv kd) (rv : RelD F.K (Av F B A ρ) H v d) :
    ∃ xs es ks b, (H (A i) = some (.ext (TDict F.K.w (A i) xs)) ∨ (xs = [] ∧ H (A i) = some (.dK []))) ∧ RelTs F.K (Av F B A ρ) H xs es ∧ kv = .ref b ∧ KeyAt F.K (Av F B A ρ) H b ks ∧ xs.length < sizeLine ∧
      ∀ u, RelV v u → Gro (fun b => b = A i) H (upd H (A i) (.ext (TDict F.K.w (A i) (storedH xs ks b u)))) ∧ RelO F.K (Av F B A ρ) (upd H (A i) (.ext (TDict F.K.w (A i) (storedH xs ks b u)))) (A i) o' := by
  have hC : ∀ a, a = A i → Av F B A ρ a := fun a h => .inr (.inr ⟨i, _, e, .inl h⟩)
  obtain ⟨_, r⟩ := E.own i _ e
  unfold gPutT at hg
  split at hg
  · rename_i ks es e1 e2
    split at hg
    · rename_i hl
      cases hg
      have e3 := keyT_some e1
      subst e3
      obtain ⟨b, rfl, hb⟩ := rk.keyAt
      have hx : ∃ xs, (H (A i) = some (.ext (TDict F.K.w (A i) xs)) ∨ (xs = [] ∧ H (A i) = some (.dK []))) ∧ RelTs F.K (Av F B A ρ) H xs es := by
        unfold tdE at e2
        split at e2
        · cases e2
          rcases r with ⟨kvs, h1, h2⟩ | ⟨xs, h1, h2⟩
          · cases h2
            exact ⟨[], .inr ⟨rfl, h1⟩, .nil⟩
          · cases h2
        · cases e2
          rcases r with ⟨kvs, h1, h2⟩ | ⟨xs, h1, h2⟩
          · have : ∀ {k : D} {d : D} {r : List (D × D)} {kvs}, RelKs F.K (Av F B A ρ) H kvs ((k, d) :: r) → ∃ q, k = kD q := fun h => by cases h; exact ⟨_, rfl⟩
            obtain ⟨q, hq⟩ := this h2
            cases q <;> cases hq
          · cases h2 with
            | mk h2 => exact ⟨xs, .inl h1, h2⟩
        · cases e2
      obtain ⟨xs, h1, h2⟩ := hx
      refine ⟨xs, es, ks, b, h1, h2, rfl, hb, by rw [h2.length]; exact hl, fun u ru => ?_⟩
      have G : Gro (fun b => b = A i) H (upd H (A i) (.ext (TDict F.K.w (A i) (storedH xs ks b u)))) := by
        rcases h1 with h1 | ⟨_, h1⟩
        · exact Gro.upd h1 fun ps z => nomatch z
        · exact Gro.upd h1 fun ps z => nomatch z
      exact ⟨G, .inr ⟨_, upd_same, (RelMk.mk (RelTs.put hb ru rv h2)).mono G (fun _ z => z) hC⟩⟩
    · cases hg
  · cases hg
def mPutT (i : Nat) (mk mv : M D) : MS := fun ρ => match mv ρ with
  | some (d, ρ1) => (match ρ1[i]? with
    | some (some (true, o)) => (match mk ρ1 with
      | some (kd, ρ2) => (match gPutT o kd d with
        | some o' => some (.nx (ρ2.set i (some (true, o'))))
        | none => none)
      | none => none)
    | _ => none)
  | none => none
theorem s_putT {i : Nat} {x : Str} {k value : Expr} {mk mv : M D} {depk effk effv : List Nat} {xp pos' : Pos} (hu : X.A.units + 1 < cLine) (hN : X.N[i]? = some x) (hv : Vis X.env.scope x) (hk : PE X k (rd F mk depk effk)) (hval : PE X value (rd F mv [] effv)) (hne : i ∉ effk := by decide)
    (hs : swapsWith value (some (.Subscript (.Name x xp) k pos')) pos.line X.env = pure false := by rfl) (hd : (x == ("__debug__" : Str)) = false := by decide) (hcd : (x == ("__classdict__" : Str)) = false := by decide) (hK : X.kw = F.K := by rfl) :
    PS X (.Assign [.Subscript (.Name x xp) k pos'] value pos) (rdS F (mPutT i mk mv)) := by
  refine ⟨fun pins s σ H Dn I ⟨A, ρ, out, E, hm, kk⟩ => ?_⟩
  unfold mPutT at hm
  split at hm
  · rename_i d ρ1 e1
    split at hm
    · rename_i o e2
      split at hm
      · rename_i kd ρ2 e3
        split at hm
        · rename_i o' e4
          cases hm
          refine wpAny_Assign_Subscript (thn (hval.run pins s σ H (fun v H1 => Post F [] A σ H ρ effv H1 ρ1 ∧ Val F [] A ρ1 H1 [] v d) I ⟨[], A, ρ, d, ρ1, E, e1, fun v H1 P r => ⟨P, r⟩⟩) fun r s1 ⟨v, H1, I1, rv, P1, r1⟩ => ?_) hs
          obtain ⟨h1, h2⟩ := P1.env.own i o e2
          refine thn ((pe_var (pos := xp) hN hv hd hcd).run pins s1 σ H1 (fun w H2 => w = .ref (A i) ∧ H2 = H1) I1 ⟨_, h1, rfl, rfl⟩) fun u s2 ⟨x, H2, I2, rx, q1, q2⟩ => ?_
          subst q1 q2
          cases rx
          refine thn (hk.run pins s2 σ H2 (fun w H3 => Post F [] A σ H2 ρ1 effk H3 ρ2 ∧ Val F [] A ρ2 H3 depk w kd) I2 ⟨[], A, ρ1, kd, ρ2, P1.env, e3, fun v H1 P r => ⟨P, r⟩⟩) fun iv s3 ⟨y, H3, I3, ry, P2, r2⟩ => ?_
          have e5 : ρ2[i]? = some (some (true, o)) := by rw [P2.lv.keep i hne]; exact e2
          have rv' := (r1.later P2.gro P2.lv (by simp)).plain
          obtain ⟨xs, es, ks, b, g1, g2, rfl, g3, g4, g5⟩ := putT_ok P2.env e5 e4 (r2.rr P2.env) rv'
          cases ry
          obtain ⟨G, R⟩ := g5 r rv
          rw [← hK.kww] at g1 G R
          exact td_setItem hu I3 g1 (hK ▸ g2) (hK ▸ g3) g4 fun s4 I4 => ⟨σ, _, I4, kk A σ _ (P2.write e5 G R (gPutT_notB e4)).env⟩
        · cases hm
      · cases hm
    · cases hm
  · cases hm
end
end PD
set_option Elab.async false
set_option linter.all false
set_option maxRecDepth 100000
set_option maxHeartbeats 2000000
namespace TSh
open PySem PyProof.Rows
def up (ns : List Int) : List Int := ns.map (· + 1000000)
def rk (ns : List Int) : Int := TS.code 2000001 (up ns)
def In (ns : List Int) : Prop := ∀ m ∈ ns, -1000000 ≤ m ∧ m ≤ 1000000
theorem In.bd {ns : List Int} (h : In ns) : TS.Bd 2000001 (up ns) := fun m hm => by
  obtain ⟨x, hx, rfl⟩ := List.mem_map.mp hm
  have := h x hx
  omega
theorem In.tail {n : Int} {ns : List Int} (h : In (n :: ns)) : In ns := fun m hm => h m (List.mem_cons_of_mem _ hm)
theorem rk_inj : ∀ {ns ms : List Int}, ns.length = ms.length → In ns → In ms → rk ns = rk ms → ns = ms
  | [], [], _, _, _, _ => rfl
  | [], _ :: _, h, _, _, _ => by simp at h
  | _ :: _, [], h, _, _, _ => by simp at h
  | n :: ns, m :: ms, hl, h1, h2, e => by
    have hl' : ns.length = ms.length := by simpa using hl
    have hu : (up ns).length = (up ms).length := by simp [up, hl']
    rcases Int.lt_trichotomy n m with y | y | y
    · have := TS.code_lt (B := 2000001) (d := n + 1000000) (e := m + 1000000) hu h1.tail.bd h2.tail.bd (by omega)
      exact absurd e (Int.ne_of_lt this)
    · subst y
      congr 1
      refine rk_inj hl' h1.tail h2.tail ?_
      have e : (n + 1000000) * 2000001 ^ (up ns).length + rk ns = (n + 1000000) * 2000001 ^ (up ms).length + rk ms := e
      rw [hu] at e
      omega
    · have := TS.code_lt (B := 2000001) (d := m + 1000000) (e := n + 1000000) hu.symm h2.tail.bd h1.tail.bd (by omega)
      exact absurd e.symm (Int.ne_of_lt this)
section
variable {prog : Program} {w : World} {A : Around} {E : Value → Shared → Prop} {s : Shared}
theorem lex_up {b : Bool} {R : Bool → Shared → Prop} : ∀ {us zs : List Value} {ns ms : List Int} (i : Nat), IntsAre us ns → IntsAre zs ms → ns.length = ms.length → In ns → In ms → R (decide (rk ns < rk ms)) s → PySem.W.KatLex prog w A b false R (us.zip zs) i s := by
  intro us zs ns ms i hx
  induction hx generalizing zs ms i with
  | nil =>
    intro hz hl h1 h2 h
    cases hz with
    | nil =>
      rw [show decide (rk [] < rk []) = false from decide_eq_false (Int.lt_irrefl _)] at h
      exact PySem.W.kat_nil h
    | cons q u hz => simp at hl
  | @cons p t us ns hx ih =>
    intro hz hl h1 h2 h
    cases hz with
    | nil => simp at hl
    | @cons q u zs ms hz =>
      have hl' : ns.length = ms.length := by simpa using hl
      have hu : (up ns).length = (up ms).length := by simp [up, hl']
      show PySem.W.KatLex prog w A b false R ((Value.int p t, Value.int q u) :: us.zip zs) i s
      refine PySem.W.kat_cons (wpAny_eqBool_int ?_)
      by_cases e : p = q
      · subst e
        rw [beq_self_eq_true]
        rw [show decide (rk (p :: ns) < rk (p :: ms)) = decide (rk ns < rk ms) from decide_eq_decide.mpr (TS.code_same hu)] at h
        exact PySem.W.kat_yes (ih (i + 1) hz hl' h1.tail h2.tail h)
      · rw [show (p == q) = false from beq_eq_false_iff_ne.mpr e]
        refine PySem.W.kat_no (TS.oneLt_ints _ ?_)
        have d : decide (rk (p :: ns) < rk (q :: ms)) = decide (p < q) := by
          refine decide_eq_decide.mpr ⟨fun x => ?_, fun x => TS.code_lt hu h1.tail.bd h2.tail.bd (show p + 1000000 < q + 1000000 by omega)⟩
          rcases Int.lt_trichotomy p q with y | y | y
          · exact y
          · exact absurd y e
          · have : rk (q :: ms) < rk (p :: ns) := TS.code_lt hu.symm h2.tail.bd h1.tail.bd (show q + 1000000 < p + 1000000 by omega)
            omega
        rw [d] at h
        exact h
end
def Tups (h : Heap) (d : Nat) (vs : List Value) : Prop := ∀ v ∈ vs, ∃ ns, TS.TupInts h v ns ∧ ns.length = d ∧ In ns
theorem Tups.keeps {h h' : Heap} {d : Nat} {vs : List Value} (x : Tups h d vs) (k : ∀ b o, h.get? b = some o → o.cls = .type "tuple" → h'.get? b = some o) : Tups h' d vs := fun v hv => let ⟨ns, t, r⟩ := x v hv; ⟨ns, t.keeps k, r⟩
theorem heads {h : Heap} {d : Nat} (hd : 1 ≤ d) : ∀ vs : List Value, Tups h d vs → ∃ fs, PySem.W.KatTups h vs fs ∧ fs.length = vs.length ∧ ∀ f ∈ fs, ∃ n t, f = Value.int n t
  | [], _ => ⟨[], .nil, rfl, fun f hf => by cases hf⟩
  | v :: vs, x => by
    obtain ⟨fs, k, hl, hi⟩ := heads hd vs fun u hu => x u (List.mem_cons_of_mem _ hu)
    obtain ⟨ns, ⟨a, us, rfl, ⟨o, ho, hc, n, hdt⟩, i⟩, hn, _⟩ := x v List.mem_cons_self
    cases q : us.toList with
    | nil =>
      rw [q] at i
      have l := i.length
      rw [List.length_nil, hn] at l
      omega
    | cons y ys =>
      obtain ⟨m, t, hy⟩ := i.all y (by rw [q]; exact List.mem_cons_self)
      refine ⟨y :: fs, PySem.W.KatTups.cons ho hc hdt ?_ k, by simp [hl], fun f hf => ?_⟩
      · have z := congrArg (fun l : List Value => l[0]?) q
        simpa using z
      · rcases List.mem_cons.mp hf with rfl | hf
        · exact ⟨m, t, hy⟩
        · exact hi f hf
section
variable {prog : Program} {w : World} {A : Around} {E : Value → Shared → Prop} {s : Shared}
theorem kind_up {d : Nat} {vs : List Value} (hd : 1 ≤ d) (h2 : 2 ≤ vs.length) (x : Tups s.heap d vs) (r : Value → Int) (hr : ∀ v ∈ vs, ∀ ns, TS.TupInts s.heap v ns → r v = rk ns) (R : SortKind → Shared → Prop)
    (h : ∀ κ, TS.Cmp prog w A s κ (pairsOf vs) r → R κ s) : wpAny (model prog w) A (keyKind' vs.toArray) R E s := by
  obtain ⟨fs, k, hl, hi⟩ := heads hd vs x
  refine PySem.W.kat_kind (T := Value.type "int") k (by omega) (fun f hf => ?_) rfl (h _ ?_)
  · obtain ⟨n, t, rfl⟩ := hi f hf
    exact PySem.W.Looks.of_pure rfl
  · intro p q hp hq R' E' hR
    rw [pairsOf_toList] at hp hq
    obtain ⟨ns, tp, lp, bp⟩ := x _ (mem_zip_self hp).2
    obtain ⟨ms, tq, lq, bq⟩ := x _ (mem_zip_self hq).2
    have e1 := hr _ (mem_zip_self hp).2 _ tp
    have e2 := hr _ (mem_zip_self hq).2 _ tq
    have hR' : R' (decide (rk ns < rk ms)) s := by
      rw [← e1, ← e2]; exact hR
    obtain ⟨a, us, g1, ⟨o, ho, hc, n, hdt⟩, i⟩ := tp
    obtain ⟨a', zs, g2, ⟨o', ho', hc', n', hdt'⟩, i'⟩ := tq
    rw [g1, g2]
    refine PySem.W.kat_lt ho hdt ho' hdt' ?_
    have sz : decide (us.size < zs.size) = false := by
      have l1 := i.length
      have l2 := i'.length
      rw [Array.length_toList] at l1 l2
      exact decide_eq_false (by omega)
    rw [sz]
    exact lex_up 0 i i' (by omega) bp bq hR'
theorem sort_up {a : Addr} {vs : List Value} {n d : Nat} {R : PySem.Fin → Shared → Prop} (ho : s.heap.get? a = some (seqObj "list" vs.toArray n)) (h64 : vs.length < 64) (hd : 1 ≤ d) (x : Tups s.heap d vs)
    (h : ∀ out : Array Value, out.toList.Perm vs → out.toList.Pairwise (fun u v => rk (TS.intsOf s.heap u) ≤ rk (TS.intsOf s.heap v)) → R (.done (.ret .none)) { s with heap := sortedHeap s.heap a vs out }) :
    wpAny (model prog w) A (Builtin.«list.sort» ⟨[.ref a], []⟩) R E s := by
  have keep : ∀ b o, s.heap.get? b = some o → o.cls = .type "tuple" → (TS.midHeap s.heap a vs).get? b = some o := fun b o e hc => TS.midHeap_old (fun z => by
    subst z
    rw [ho] at e
    cases e
    have hc : Value.type "list" = Value.type "tuple" := hc
    injection hc with hc
    exact absurd hc (by decide)) e
  refine SK.plain_sort (r := fun v => rk (TS.intsOf s.heap v)) ho h64 (fun h2 R hR => ?_) fun ps out h1 h2 h3 => ?_
  · refine kind_up (s := { s with heap := TS.midHeap s.heap a vs }) hd h2 (x.keeps keep) _ (fun v hv ns t => ?_) R hR
    obtain ⟨ns0, t0, _⟩ := x v hv
    have e : ns = ns0 := t.ints.symm.trans (t0.keeps keep).ints
    rw [e, t0.ints]
  · obtain ⟨p, o⟩ := TS.out_rank (r := fun v => rk (TS.intsOf s.heap v)) h1 h2 h3
    exact h out p o
end
end TSh
namespace PD
open PySem PySem.Spec PyProof.Rows L2 GxR GenX OwnK
def insT (k : List Int) : List (List Int) → List (List Int)
  | [] => [k]
  | x :: r => if TSh.rk k ≤ TSh.rk x then k :: x :: r else x :: insT k r
def sortT (ks : List (List Int)) : List (List Int) := ks.foldr insT []
theorem insT_perm (k : List Int) : ∀ l, (insT k l).Perm (k :: l)
  | [] => List.Perm.refl _
  | x :: r => by
    unfold insT
    split
    · exact List.Perm.refl _
    · exact ((insT_perm k r).cons x).trans (List.Perm.swap ..)
theorem sortT_perm : ∀ l, (sortT l).Perm l
  | [] => List.Perm.refl _
  | x :: r => (insT_perm x _).trans ((sortT_perm r).cons x)
theorem insT_sorted (k : List Int) : ∀ l, l.Pairwise (fun x y => TSh.rk x ≤ TSh.rk y) → (insT k l).Pairwise (fun x y => TSh.rk x ≤ TSh.rk y)
  | [], _ => List.pairwise_singleton ..
  | x :: r, h => by
    obtain ⟨h1, h2⟩ := List.pairwise_cons.mp h
    unfold insT
    split
    · rename_i hk
      refine List.pairwise_cons.mpr ⟨fun y hy => ?_, h⟩
      rcases List.mem_cons.mp hy with e | hy
      · rw [e]; exact hk
      · exact Int.le_trans hk (h1 y hy)
    · rename_i hk
      refine List.pairwise_cons.mpr ⟨fun y hy => ?_, insT_sorted k r h2⟩
      rcases List.mem_cons.mp ((insT_perm k r).mem_iff.mp hy) with e | hy
      · rw [e]; omega
      · exact h1 y hy
theorem sortT_sorted : ∀ l, (sortT l).Pairwise (fun x y => TSh.rk x ≤ TSh.rk y)
  | [] => List.Pairwise.nil
  | x :: r => insT_sorted x _ (sortT_sorted r)
theorem inj_maps {α β : Type} {f : α → β} : ∀ {l l' : List α}, (∀ a ∈ l, ∀ b ∈ l', f a = f b → a = b) → l.map f = l'.map f → l = l'
  | [], [], _, _ => rfl
  | [], _ :: _, _, e => by cases e
  | _ :: _, [], _, e => by cases e
  | a :: l, b :: l', h, e => by
    rw [List.map_cons, List.map_cons] at e
    injection e with e1 e2
    rw [h a List.mem_cons_self b List.mem_cons_self e1, inj_maps (fun a ha b hb => h a (List.mem_cons_of_mem _ ha) b (List.mem_cons_of_mem _ hb)) e2]
def okS (d : Nat) (ks : List (List Int)) : Prop := 1 ≤ d ∧ ks.length < 64 ∧ ∀ k ∈ ks, k.length = d ∧ TSh.In k
theorem sortT_uniq {d : Nat} {l ks : List (List Int)} (h : okS d ks) (hp : l.Perm ks) (hs : l.Pairwise (fun x y => TSh.rk x ≤ TSh.rk y)) : l = sortT ks := by
  have hm : ∀ a ∈ l, a.length = d ∧ TSh.In a := fun a ha => h.2.2 a (hp.mem_iff.mp ha)
  have hm2 : ∀ a ∈ sortT ks, a.length = d ∧ TSh.In a := fun a ha => h.2.2 a ((sortT_perm ks).mem_iff.mp ha)
  refine inj_maps (f := TSh.rk) (fun a ha b hb e => TSh.rk_inj (by rw [(hm a ha).1, (hm2 b hb).1]) (hm a ha).2 (hm2 b hb).2 e) ?_
  have p1 : (l.map TSh.rk).Perm (sortI (l.map TSh.rk)) := (sortI_perm _).symm
  have e1 := sorted_uniq p1 (List.pairwise_map.mpr hs) (sortI_sorted _)
  have p2 : ((sortT ks).map TSh.rk).Perm (sortI (l.map TSh.rk)) := (((sortT_perm ks).trans hp.symm).map _).trans p1
  have e2 := sorted_uniq p2 (List.pairwise_map.mpr (sortT_sorted ks)) (sortI_sorted _)
  rw [e1, e2]
section
variable {X : Cx} {F : Frm} {pos p : Pos} {S : Addr → Prop} {H : Hp} {pins : List (Addr × Obj)} {σ : L2.St} {s : Shared}
theorem perm_mapB {α β : Type} {f : α → β} {l : List β} : ∀ {xs : List α}, l.Perm (xs.map f) → ∃ ys : List α, l = ys.map f ∧ ys.Perm xs := by
  intro xs h
  generalize e : xs.map f = m at h
  induction h generalizing xs with
  | nil => cases xs with
    | nil => exact ⟨[], rfl, .nil⟩
    | cons _ _ => cases e
  | @cons x l1 l2 h ih => cases xs with
    | nil => cases e
    | cons a r =>
      cases e
      obtain ⟨ys, e1, e2⟩ := ih rfl
      exact ⟨a :: ys, by rw [e1]; rfl, e2.cons a⟩
  | swap x y l => match xs, e with
    | a :: b :: r, rfl => exact ⟨b :: a :: r, rfl, List.Perm.swap ..⟩
  | trans h1 h2 ih1 ih2 =>
    obtain ⟨ys, e1, p1⟩ := ih2 e
    obtain ⟨zs, e2, p2⟩ := ih1 e1.symm
    exact ⟨zs, e2, p2.trans p1⟩
def intsD (ks : List Key) : List Int := ks.map fun k => match k with
  | .inl i => i
  | .inr _ => 0
def isIK (ks : List Key) : Bool := ks.all fun k => k.isLeft
theorem intsD_of : ∀ {ks : List Key}, isIK ks = true → ks = (intsD ks).map .inl
  | [], _ => rfl
  | .inl i :: r, h => by
    have h : isIK r = true := by simpa [isIK] using h
    show Sum.inl i :: r = Sum.inl i :: (intsD r).map .inl
    rw [← intsD_of h]
  | .inr _ :: r, h => by simp [isIK] at h
theorem intsD_kV {ks : List Key} (h : isIK ks = true) : ks.map kV = (intsD ks).map V.int := by
  conv => lhs; rw [intsD_of h]
  rw [List.map_map]; rfl
theorem intsD_kD {ks : List Key} (h : isIK ks = true) : ks.map kD = (intsD ks).map .int := by
  conv => lhs; rw [intsD_of h]
  rw [List.map_map]; rfl
theorem call_sortedT (hcalm : X.calm = true) : CallR X (.builtin "sorted") (fun vs H Q => ∃ S a xs es d, vs = [V.ref a] ∧ HT X.w H a xs ∧ RelTs X.kw S H xs es ∧ (∀ x ∈ xs, isIK x.1 = true) ∧ okS d (xs.map fun x => intsD x.1) ∧
    ∀ (L : List (List Key × Addr × Value)) (p : Addr), L.Perm xs → L.Pairwise (fun x y => TSh.rk (intsD x.1) ≤ TSh.rk (intsD y.1)) → H p = none → Q (.ref p) (upd H p (.lst (L.map fun x => V.ref x.2.1)))) := by
  intro pins s σ H vs us Q I r ⟨S, a, xs, es0, d, ex, hT, rt, hik, hok, q⟩
  subst ex
  obtain ⟨u, eu, rx⟩ := vals1 r
  subst eu
  cases rx
  obtain ⟨lo, hl, o, es, ep, ho, hex, hdt, hes, hkeys, hnd⟩ := td_at I hT rt
  have h64 : xs.length < 64 := by have := hok.2.1; rwa [List.length_map] at this
  have l1 : es.size = xs.length := size_of_entries hes
  refine Calls.call_function_entry PyProof.Rows.kind_sorted PyProof.Rows.plain_sorted PyProof.Rows.entry_sorted (PyProof.Rows.args_sorted1 _) ?_
  unfold Builtin.«sorted»
  refine wpAny_bind (m := checkCount "sorted" 1 1 _) (wpAny_pure ?_)
  refine wpAny_bind (PySem.W.kdu_collect (A := X.A.in1) (kdl_raw lo hex hdt) (I.ok.hd hcalm) ho (by omega) fun h' tk acc hk hacc => ?_)
  have ea : acc.toList = xs.map fun x => Value.ref x.2.1 := by
    have hla : acc.toList.length = xs.length := by rw [Array.length_toList, hacc.1, l1]
    apply List.ext_getElem?
    intro j
    rw [List.getElem?_map]
    cases hj : xs[j]? with
    | none =>
      have := List.getElem?_eq_none_iff.mp hj
      rw [List.getElem?_eq_none (by omega)]; rfl
    | some x =>
      have hlt : j < acc.toList.length := by
        have := (List.getElem?_eq_some_iff.mp hj).1
        omega
      obtain ⟨en, hen, hv⟩ := hacc.2 j acc.toList[j] (by rw [← Array.getElem?_toList]; exact List.getElem?_eq_getElem hlt)
      have qe := entry_at hes j
      rw [hen, hj] at qe
      have e2 : en = entryOfKey (PySem.tupleKind (L2.mixKind X.prog X.w)) x := Option.some.inj qe
      rw [List.getElem?_eq_getElem hlt, hv, e2]
      rfl
  have I1 : Inv X pins σ H { s with heap := h', toks := tk } := I.kept hk
  have kx : ∀ x ∈ xs, TS.TupInts h' (.ref x.2.1) (intsD x.1) := fun x hx => tupI_raw I1 (show SqT X.K H x.2.1 ((intsD x.1).map V.int) by
    rw [← intsD_kV (hik x hx)]
    rcases rt.keys x hx with ⟨_, h⟩ | h
    · exact .inl h.rd
    · exact .inr h.sq)
  have hvl : acc.toList.length < 64 := by rw [ea, List.length_map]; exact h64
  refine wpAny_bind (wpAny_newList ?_ (by rw [sizeLine_eq]; omega))
  have hoL : (h'.push (seqObj "list" acc.toList.toArray 0)).get? h'.objs.size = some (seqObj "list" acc.toList.toArray 0) := Heap.get?_push_size _ rfl
  have kp : ∀ x ∈ xs, TS.TupInts (h'.push (seqObj "list" acc.toList.toArray 0)) (.ref x.2.1) (intsD x.1) := fun x hx => (kx x hx).keeps fun b o e _ => Heap.get?_push_of_some _ e
  have tx : TSh.Tups (h'.push (seqObj "list" acc.toList.toArray 0)) d acc.toList := fun v hv => by
    rw [ea] at hv
    obtain ⟨x, hx, rfl⟩ := List.mem_map.mp hv
    have := hok.2.2 (intsD x.1) (List.mem_map.mpr ⟨x, hx, rfl⟩)
    exact ⟨intsD x.1, kp x hx, this.1, this.2⟩
  show wpAny _ _ _ _ _ { s with heap := h'.push (seqObj "list" acc.toList.toArray 0), toks := tk }
  refine wpAny_bind (wpAny_holding (wpAny_call_entry PyProof.Rows.slot_list_sort ⟨_, hoL, rfl⟩ PyProof.Rows.entry_list_sort
    (TSh.sort_up (s := { s with heap := h'.push (seqObj "list" acc.toList.toArray 0), toks := tk }) hoL hvl hok.1 tx fun out g1 g2 => ⟨_, rfl, ?_⟩) (PyProof.Rows.args_list_sort _)))
  obtain ⟨e', he'⟩ := PyProof.Rows.sortedHeap_at (vs := acc.toList) (out := out) hoL
  rw [ea] at g1
  obtain ⟨L, hL, pL⟩ := perm_mapB g1
  have hs : L.Pairwise (fun x y => TSh.rk (intsD x.1) ≤ TSh.rk (intsD y.1)) := by
    rw [hL, List.pairwise_map] at g2
    refine g2.imp_of_mem fun {x y} hx hy h => ?_
    rw [(kp x (pL.mem_iff.mp hx)).ints, (kp y (pL.mem_iff.mp hy)).ints] at h
    exact h
  have hvr : ∀ L : List (List Key × Addr × Value), Vals (L.map fun x => V.ref x.2.1) (L.map fun x => Value.ref x.2.1) := fun L => by
    induction L with
    | nil => exact .nil
    | cons x r ih => exact .cons rfl ih
  have hlen : (L.map fun x => V.ref x.2.1).length ≤ sizeLine := by
    rw [List.length_map, pL.length_eq]
    omega
  refine wpAny_pure ⟨_, rfl, .ref h'.objs.size, upd H h'.objs.size (.lst (L.map fun x => V.ref x.2.1)), I1.laid (t' := tk) (fun b u e => ?_) (Nat.le_refl _)
    (show ObjOk X.prog X.w _ _ _ (.lst (L.map fun x => V.ref x.2.1)) from ⟨hlen, out.toList, e', by rw [hL]; exact hvr L, by rw [Array.toArray_toList]; exact he'⟩), rfl, q L _ pL hs (I1.hok.fresh (Nat.le_refl _))⟩
  have hb : b < h'.objs.size := Heap.lt_size e
  rw [PyProof.Rows.sortedHeap_old (Nat.ne_of_lt hb) (by rw [size_push']; exact Nat.lt_succ_of_lt hb)]
  exact Heap.get?_push_of_some _ e
def keysT : List (D × D) → Option (List (List Key))
  | [] => some []
  | (kd, _) :: r => (match keyT kd, keysT r with
    | some k, some l => some (k :: l)
    | _, _ => none)
def tupI (ks : List Int) : D := .tuple (ks.map .int)
def tupM (ks : List Key) : D := .tuple (ks.map kD)
instance {ns : List Int} : Decidable (TSh.In ns) := inferInstanceAs (Decidable (∀ m ∈ ns, _))
instance {d : Nat} {ks : List (List Int)} : Decidable (okS d ks) := inferInstanceAs (Decidable (_ ∧ _ ∧ _))
def gSortedT : List D → Option D
  | [d] => (match tdE d with
    | some es => (match keysT es with
      | some ks => if ks.all isIK = true ∧ okS (intsD (ks.headD [.inl 0])).length (ks.map intsD) then some (.list ((sortT (ks.map intsD)).map tupI)) else none
      | none => none)
    | none => none)
  | _ => none
theorem RelTs.keysT {K : KWd} : ∀ {xs : List (List Key × Addr × Value)} {es : List (D × D)}, RelTs K S H xs es → PD.keysT es = some (xs.map (·.1))
  | _, _, .nil => rfl
  | _, _, .cons _ _ _ t => by
    unfold PD.keysT
    rw [keyT_keys, t.keysT]
    rfl
theorem rels_keysD {K : KWd} : ∀ ks : List Key, RelDs K S H (ks.map kV) (ks.map kD)
  | [] => .nil
  | .inl i :: r => .cons (.int i) (rels_keysD r)
  | .inr z :: r => .cons (.str z) (rels_keysD r)
theorem KeyAt.rel {K : KWd} {b : Addr} {ks : List Key} (h : KeyAt K S H b ks) : RelD K S H (.ref b) (tupM ks) := by
  rcases h with ⟨n, s⟩ | s
  · exact .tup n s (rels_keysD ks)
  · exact .tupK s (rels_keysD ks)
theorem rels_keys {K : KWd} : ∀ {L : List (List Key × Addr × Value)}, (∀ x ∈ L, KeyAt K S H x.2.1 x.1) → RelDs K S H (L.map fun x => V.ref x.2.1) (L.map fun x => tupM x.1)
  | [], _ => .nil
  | x :: r, h => .cons (h x List.mem_cons_self).rel (rels_keys fun y hy => h y (List.mem_cons_of_mem _ hy))
theorem c_sortedT {K : KWd} (hc : X.calm = true) (hK : X.kw = K := by rfl) : CallR X (.builtin "sorted") (rcall K gSortedT) := by
  subst hK
  intro pins s σ H vs us Q I r ⟨S, ds, d, hr, e, occ, k⟩
  unfold gSortedT at e
  split at e
  · rename_i d0
    split at e
    · rename_i es he
      split at e
      · rename_i ks hk
        split at e
        · rename_i hok
          cases e
          obtain ⟨v, rfl, r1⟩ := prs1 hr
          obtain ⟨a, xs, rfl, hT, rt⟩ := r1.td he
          rw [rt.keysT] at hk
          cases hk
          have hik : ∀ x ∈ xs, isIK x.1 = true := fun x hx => List.all_eq_true.mp hok.1 _ (List.mem_map.mpr ⟨x, hx, rfl⟩)
          have hok := hok.2
          rw [List.map_map] at hok k
          refine call_sortedT hc pins s σ H _ us Q I r ⟨S, a, xs, es, _, rfl, hT, rt, hik, hok, fun L p pL hs hp => ?_⟩
          have e1 : L.map (fun x => intsD x.1) = sortT (xs.map (fun x => intsD x.1)) := sortT_uniq hok (pL.map _) (List.pairwise_map.mpr hs)
          have e2 : (L.map (fun x => intsD x.1)).map tupI = L.map fun x => tupM x.1 := by
            rw [List.map_map]
            refine List.map_congr_left fun x hx => ?_
            show PyData.tuple ((intsD x.1).map .int) = .tuple (x.1.map kD)
            rw [intsD_kD (hik x (pL.mem_iff.mp hx))]
          have k : ∀ v H', Ext H H' → RelD X.kw S H' v (.list ((sortT (xs.map (fun x => intsD x.1))).map tupI)) → Q v H' := k
          rw [← e1, e2] at k
          have rk := rels_keys (K := X.kw) (S := S) (H := H) (L := L) fun x hx => rt.keys x (pL.mem_iff.mp hx)
          exact k _ _ (Ext.new hp) (.lst (fun z => occ _ z hp) (.inl upd_same) (rk.ext (Ext.new hp)))
        · cases e
      · cases e
    · cases e
  · cases e
end
end PD
set_option Elab.async false
set_option linter.all false
set_option maxRecDepth 100000
set_option maxHeartbeats 2000000
namespace PD
open PySem PySem.Spec PyProof.Rows L2 GxR GenX OwnK
section
variable {prog : Program} {w : World} {A : Around} {E : Value → Shared → Prop} {s : Shared} {l : Addr} {its : List Value} {ns : List Int} {Q : Value → Shared → Prop}
end
section
variable {X : Cx} {K : KWd}
theorem sputT {F : Frm} {pos : Pos} (i : Nat) {x : Str} {k value : Expr} {mk mv : M D} {depk effk effv : List Nat} {xp pos' : Pos} (hu : X.A.units + 1 < cLine) (hk : PE X k (rd F mk depk effk)) (hval : PE X value (rd F mv [] effv)) (hN : X.N[i]? = some x := by rfl) (hv : Vis X.env.scope x := by first | exact Or.inl rfl | exact Or.inr (Or.inl rfl) | exact Or.inr (Or.inr rfl)) (hne : (!decide (i ∈ effk)) = true := by rfl)
    (hs : swapsWith value (some (.Subscript (.Name x xp) k pos')) pos.line X.env = pure false := by rfl) (hd : (x == ("__debug__" : Str)) = false := by decide) (hcd : (x == ("__classdict__" : Str)) = false := by decide) (hK : X.kw = F.K := by rfl) :
    PS X (.Assign [.Subscript (.Name x xp) k pos'] value pos) (rdS F (mPutT i mk mv)) := s_putT hu hN hv hk hval (nio hne) hs hd hcd hK
end
end PD
set_option Elab.async false
set_option linter.all false
set_option maxRecDepth 100000
set_option maxHeartbeats 4000000
namespace DcG
open PySem PySem.Spec PyProof.Rows L2
abbrev PutR := Addr → V → V → Hp → (Hp → Prop) → Prop
section
variable {X : Cx} {Put : PutR}
section
variable {kx vx tg iter : Expr} {ifs : List Expr} {scope : Scope} {own : List (Str × Nat)} {cpos pos' : Pos} {wi : TI} {g : TG} {tt : TT} {tk tv : TE}
end
end
end DcG
namespace PD
open PySem PySem.Spec PyProof.Rows L2 GxR GenX OwnK
def tdC : List (D × D) → D
  | [] => .dict []
  | e :: r => tdD (e :: r)
def TdSt (w : World) (G : Hp) (d : Addr) (xs : List (List Key × Addr × Value)) (acc : List (D × D)) : Prop := (xs = [] ∧ acc = [] ∧ G d = some (.dK [])) ∨ (xs ≠ [] ∧ G d = some (.ext (TDict w d xs)))
theorem TdSt.keep {w : World} {G G' : Hp} {d : Addr} {xs : List (List Key × Addr × Value)} {acc : List (D × D)} (h : TdSt w G d xs acc) (k : ∀ o, G d = some o → (∀ ps, o ≠ .tbl ps) → G' d = some o) : TdSt w G' d xs acc := by
  rcases h with ⟨a, b, e⟩ | ⟨a, e⟩
  · exact .inl ⟨a, b, k _ e fun ps z => nomatch z⟩
  · exact .inr ⟨a, k _ e fun ps z => nomatch z⟩
theorem TdSt.st {w : World} {G : Hp} {d : Addr} {xs : List (List Key × Addr × Value)} {acc : List (D × D)} (h : TdSt w G d xs acc) : G d = some (.ext (TDict w d xs)) ∨ (xs = [] ∧ G d = some (.dK [])) := by
  rcases h with ⟨a, b, e⟩ | ⟨a, e⟩
  · exact .inr ⟨a, e⟩
  · exact .inl e
theorem TdSt.rel {K : KWd} {S : Addr → Prop} {G : Hp} {d : Addr} {xs : List (List Key × Addr × Value)} {acc : List (D × D)} (h : TdSt K.w G d xs acc) (r : RelTs K S G xs acc) : RelO K S G d (tdC acc) := by
  rcases h with ⟨a, b, e⟩ | ⟨a, e⟩
  · subst a b
    exact .inl ⟨[], e, .nil⟩
  · cases acc with
    | nil => cases r; exact absurd rfl a
    | cons p l => exact .inr ⟨xs, e, .mk r⟩
theorem RelTs.mono {K : KWd} {S S' C : Addr → Prop} {G G' : Hp} {xs : List (List Key × Addr × Value)} {ds : List (D × D)} (r : RelTs K S G xs ds) (g : Gro C G G') (h1 : ∀ a, S' a → S a) (h2 : ∀ a, C a → S a) : RelTs K S' G' xs ds := RelTs.mono' g h1 h2 _ _ r
theorem RelTs.ext {K : KWd} {S : Addr → Prop} {G G' : Hp} {xs : List (List Key × Addr × Value)} {ds : List (D × D)} (g : Ext G G') (r : RelTs K S G xs ds) : RelTs K S G' xs ds := r.mono (C := fun _ => False) g.gro (fun _ z => z) fun _ z => z.elim
theorem RelMk.ts {K : KWd} {S : Addr → Prop} {G : Hp} {xs : List (List Key × Addr × Value)} {k d : D} {ds : List (D × D)} (h : RelMk K S G xs ((k, d) :: ds)) : RelTs K S G xs ds := by
  cases h with
  | mk h => exact h
theorem RR.mono' {K : KWd} {S S' C : Addr → Prop} {G G' : Hp} {ks : List Key} {v : V} (r : RR K S G v (.tuple (ks.map kD))) (g : Gro C G G') (h1 : ∀ a, S' a → S a) (h2 : ∀ a, C a → S a) : RR K S' G' v (.tuple (ks.map kD)) := by
  rcases r with r | ⟨a, _, r⟩
  · exact .inl (r.mono g h1 h2)
  · exact r.elim
section
variable {X : Cx} {F : Frm} {pos p : Pos} {tg : Expr}
def dcLT (g : D → Rho → Option Rho) (mt : M Bool) (mk mv : M D) (vs : List Nat) : List D → List (D × D) → Rho → Option (List (D × D) × Rho)
  | [], acc, ρ => some (acc, ρ)
  | d :: r, acc, ρ => match g d ρ with
    | none => none
    | some ρ1 => (match mt ρ1 with
      | some (true, ρ2) => (match mk ρ2 with
        | some (kd, ρk) => (match mv ρk with
          | some (y, ρ3) => (match keyT kd with
            | some key => if acc.length < sizeLine then dcLT g mt mk mv vs r (dputT acc key y) (wipeR ρ3 vs) else none
            | none => none)
          | none => none)
        | none => none)
      | some (false, ρ2) => dcLT g mt mk mv vs r acc (wipeR ρ2 vs)
      | none => none)
def mDcT (mi : M (List D)) (g : D → Rho → Option Rho) (mt : M Bool) (mk mv : M D) (vs : List Nat) : M D := fun ρ => match mi ρ with
  | some (ds, ρ1) => (match dcLT g mt mk mv vs ds [] (wipeR ρ1 vs) with
    | some (acc, ρ2) => some (tdC acc, wipeR ρ2 vs)
    | none => none)
  | none => none
section
variable {kx vx iter : Expr} {ifs : List Expr} {scope : Scope} {own : List (Str × Nat)}
end
def gAddN : D → D → Option D
  | .list a, .list b => if a.length + b.length ≤ sizeLine then some (.list (a ++ b)) else none
  | _, _ => none
theorem x_addN {a b : Expr} {m1 m2 : M D} {dep1 eff1 dep2 eff2 : List Nat} (ha : PE X a (rd F m1 dep1 eff1)) (hb : PE X b (rd F m2 dep2 eff2)) (hd : ∀ i ∈ dep1, i ∉ eff2 := by decide) (hK : X.kw = F.K := by rfl) : PE X (.BinOp a .Add b pos) (rdN F (mBin gAddN m1 m2) (eff1 ++ eff2)) := by
  refine PE.mono (pe_op op_catL ha hb) fun σ H Q ⟨B, A, ρ, d, ρ2, E, hm, k⟩ => ?_
  obtain ⟨d1, ρ1, d2, e1, e2, e3⟩ := mBin_some hm
  refine ⟨B, A, ρ, d1, ρ1, E, e1, fun v1 H1 P1 r1 => ⟨B, A, ρ1, d2, ρ2, P1.env, e2, fun v2 H2 P2 r2 => ?_⟩⟩
  unfold gAddN at e3
  split at e3
  · split at e3
    · rename_i hl
      cases e3
      obtain ⟨pa, xs, rfl, h1, q1⟩ := ((r1.later P2.gro P2.lv hd).rr P2.env).list
      obtain ⟨pb, ys, rfl, h2, q2⟩ := (r2.rr P2.env).list
      rw [← hK] at h1 h2
      refine ⟨pa, pb, xs, ys, rfl, rfl, h1, h2, by rw [q1.length, q2.length]; exact hl, fun p hp => ?_⟩
      exact rdN_lay (P1.trans P2) k hp (Ext.new hp) ⟨xs ++ ys, upd_same, ((q1.append q2).away hp av_cons).ext (Ext.new hp)⟩
    · cases e3
  · cases e3
end
end PD
set_option Elab.async false
set_option linter.all false
set_option maxRecDepth 100000
set_option maxHeartbeats 2000000
namespace PD
open PySem PySem.Spec PyProof.Rows L2 GxR GenX OwnK
section
variable {X : Cx} {F : Frm} {K : KWd}
end
end PD
set_option Elab.async false
set_option linter.all false
set_option maxRecDepth 100000
set_option maxHeartbeats 2000000
namespace PD
open PySem PySem.Spec PyProof.Rows L2 GxR GenX OwnK
section
variable {X : Cx} {F : Frm} {pos p : Pos} {K : KWd}
def gSeq : D → Option (List D)
  | .list ds => some ds
  | .tuple ds => some ds
  | _ => none
def mStar (m : M D) (ms : M (List D)) : M (List D) := fun ρ => match m ρ with
  | some (d, ρ1) => (match gSeq d with
    | some ds => (match ms ρ1 with
      | some (es, ρ2) => some (ds ++ es, ρ2)
      | none => none)
    | none => none)
  | none => none
theorem RR.seq {S : Addr → Prop} {H : Hp} {v : V} {d : D} {ds : List D} (r : RR K S H v d) (h : gSeq d = some ds) : ∃ a xs, v = .ref a ∧ (SqT K H a xs ∨ SqL K H a xs) ∧ RelDs K S H xs ds := by
  unfold gSeq at h
  split at h
  · cases h
    obtain ⟨a, xs, e, h1, h2⟩ := r.list
    exact ⟨a, xs, e, .inr h1, h2⟩
  · cases h
    obtain ⟨a, xs, e, h1, h2⟩ := r.tuple
    exact ⟨a, xs, e, .inl h1, h2⟩
  · cases h
theorem RelDs.vals {B : List Addr} {A : Nat → Addr} {ρ : Rho} {H : Hp} {dep : List Nat} : ∀ {xs : List V} {ds : List D}, RelDs F.K (Av F B A ρ) H xs ds → Paired (Val F B A ρ H dep) xs ds
  | _, _, .nil => .nil
  | _, _, .cons r t => .cons (.inl r) (RelDs.vals t)
def gRev : D → Option (D × D)
  | .list ds => some (.none, .list ds.reverse)
  | _ => none
def mMut0 (i : Nat) (g : D → Option (D × D)) : M D := fun ρ => match ρ[i]? with
  | some (some (true, o)) => (match g o with
    | some (r, o') => some (r, ρ.set i (some (true, o')))
    | none => none)
  | _ => none
theorem RelDs.reverse {S : Addr → Prop} {H : Hp} : ∀ {xs : List V} {ds : List D}, RelDs K S H xs ds → RelDs K S H xs.reverse ds.reverse
  | _, _, .nil => .nil
  | _, _, .cons r t => by rw [List.reverse_cons, List.reverse_cons]; exact (RelDs.reverse t).append (.cons r .nil)
theorem RelDs.dropLast {S : Addr → Prop} {H : Hp} {xs : List V} {ds : List D} (r : RelDs K S H xs ds) : RelDs K S H xs.dropLast ds.dropLast := by
  rw [List.dropLast_eq_take, List.dropLast_eq_take, r.length]
  exact r.take _
def gExt : D → D → Option D
  | .list a, .list b => if a.length + b.length ≤ sizeLine then some (.list (a ++ b)) else none
  | _, _ => none
def mExt (i : Nat) (m : M D) : MS := fun ρ => match ρ[i]? with
  | some (some (true, o)) => (match m ρ with
    | some (d, ρ1) => (match gExt o d with
      | some o' => some (.nx (ρ1.set i (some (true, o'))))
      | none => none)
    | none => none)
  | _ => none
theorem set_self {σ : L2.St} {i : Nat} {v : V} (h : σ[i]? = some (some v)) : σ.set i (some v) = σ := by
  apply List.ext_getElem?
  intro j
  rw [List.getElem?_set]
  split
  · rename_i e
    subst e
    rw [h, if_pos (List.getElem?_eq_some_iff.mp h).1]
  · rfl
theorem s_ext {i : Nat} {x : Str} {e : Expr} {m : M D} {eff : List Nat} {pos' : Pos} (hN : X.N.Nodup) (hi : X.N[i]? = some x) (hx : Loc X.env.scope x) (he : PE X e (rdN F m eff)) (hne : i ∉ eff := by decide) (hf : X.fn x = true ∨ X.env.scope.names.lookup x = some .local := by first | exact .inl rfl | exact .inr rfl | assumption) :
    PS X (.AugAssign (.Name x pos') .Add e pos) (rdS F (mExt i m)) := PS.mono (ps_aug hN hi hx he iop_ext hf) fun Dn σ H ⟨A, ρ, out, E, hm, k⟩ => by
  unfold mExt at hm
  split at hm
  · rename_i o e2
    split at hm
    · rename_i d ρ1 e1
      split at hm
      · rename_i o' e3
        cases hm
        have hl : ∃ a b, o = .list a ∧ d = .list b ∧ a.length + b.length ≤ sizeLine ∧ o' = .list (a ++ b) := by
          unfold gExt at e3
          split at e3
          · split at e3
            · rename_i hz
              cases e3
              exact ⟨_, _, rfl, rfl, hz, rfl⟩
            · cases e3
          · cases e3
        obtain ⟨ds, bs, rfl, rfl, hz, rfl⟩ := hl
        have h1 := (E.own i _ e2).1
        refine ⟨_, h1, [], A, ρ, _, ρ1, E, e1, fun q H1 P E1 hq r => ?_⟩
        have e4 : ρ1[i]? = some (some (true, .list ds)) := by rw [P.lv.keep i hne]; exact e2
        obtain ⟨_, xs, g2, g3⟩ := P.env.own i _ e4
        obtain ⟨zs, r2, r3⟩ := r
        have G : Gro (fun b => b = A i) H1 (upd H1 (A i) (.lst (xs ++ zs))) := Gro.upd g2 fun ps z => nomatch z
        have hC : ∀ a, a = A i → Av F [] A ρ1 a := fun a h => .inr (.inr ⟨i, _, e4, .inl h⟩)
        have r4 : RelDs F.K (Av F [] A ρ1) H1 zs bs := r3.mono (C := fun _ => False) (Gro.refl _) (fun a z => by
          rcases z with z | z | z
          · exact .inl z
          · cases z
          · exact .inr (.inr z)) fun _ z => z.elim
        refine ⟨A i, q, xs, zs, rfl, rfl, g2, r2, by rw [g3.length, r4.length]; exact hz, ?_⟩
        show Dn.nx (σ.set i (some (.ref (A i)))) _
        rw [set_self h1]
        exact k A σ _ (P.write (d' := .list (ds ++ bs)) e4 G ⟨_, upd_same, (g3.append r4).mono G (fun _ z => z) hC⟩).env
      · cases hm
    · cases hm
  · cases hm
end
end PD
set_option Elab.async false
set_option linter.all false
set_option maxRecDepth 100000
set_option maxHeartbeats 2000000
namespace PD
open PySem PySem.Spec PyProof.Rows L2 GxR GenX OwnK
def bagD (a b : Int) (gs : List Int) (dc : D) : D := .tuple [.int a, .int b, .list (gs.map .int), dc]
def unbag : D → Option (Int × Int × List Int × D)
  | .tuple [.int a, .int b, .list gs, dc] => (allInts gs).map fun ns => (a, b, ns, dc)
  | _ => none
section
variable {X : Cx} {F : Frm} {pos p : Pos} {K : KWd}
theorem map_int_inj {gs hs : List Int} (h : gs.map PyData.int = hs.map .int) : gs = hs := List.map_inj_right (fun _ _ e => PyData.int.inj e) |>.mp h
theorem BagAt.get {S : Addr → Prop} {H : Hp} {p q : Addr} {a b : Int} {gs : List Int} {dc : D} (h : BagAt K S H p q [.int a, .int b, .list (gs.map .int), dc]) : ∃ vc, H p = some (.lst [.int a, .int b, .ref q, vc]) ∧ H q = some (.lst (gs.map V.int)) ∧ RelD K S H vc dc := by
  obtain ⟨x0, x1, gs', vc, dc', e, h1, h2, r⟩ := h
  simp only [List.cons.injEq, PyData.int.injEq, PyData.list.injEq, and_true] at e
  obtain ⟨rfl, rfl, e, rfl⟩ := e
  rw [map_int_inj e]
  exact ⟨vc, h1, h2, r⟩
def mBag (i k : Nat) : M D := fun ρ => match ρ[i]? with
  | some (some (true, d)) => (match unbag d with
    | some (a, b, _, dc) => (match k with
      | 0 => some (.int a, ρ)
      | 1 => some (.int b, ρ)
      | 3 => some (dc, ρ)
      | _ => none)
    | none => none)
  | _ => none
def mBagLen (i : Nat) : M D := fun ρ => match ρ[i]? with
  | some (some (true, d)) => (match unbag d with
    | some (_, _, gs, _) => some (.int gs.length, ρ)
    | none => none)
  | _ => none
def mBagPop (i : Nat) : M D := fun ρ => match ρ[i]? with
  | some (some (true, d)) => (match unbag d with
    | some (a, b, gs, dc) => (match gs.getLast? with
      | some g => some (.int g, ρ.set i (some (true, bagD a b gs.dropLast dc)))
      | none => none)
    | none => none)
  | _ => none
def mBagPut (i k : Nat) (mv : M D) : MS := fun ρ => match mv ρ with
  | some (.int v, ρ1) => (match ρ1[i]? with
    | some (some (true, d)) => (match unbag d with
      | some (a, b, gs, dc) => (match k with
        | 0 => some (.nx (ρ1.set i (some (true, bagD v b gs dc))))
        | 1 => some (.nx (ρ1.set i (some (true, bagD a v gs dc))))
        | _ => none)
      | none => none)
    | _ => none)
  | _ => none
end
end PD
set_option Elab.async false
set_option linter.all false
set_option maxRecDepth 100000
set_option maxHeartbeats 2000000
namespace PD
open PySem PySem.Spec PyProof.Rows L2 GxR GenX OwnK
section
variable {F : Frm} {B : List Addr} {A : Nat → Addr} {σ : L2.St} {H H' : Hp} {ρ ρ' : Rho} {p q : Addr}
theorem Pt.up2 {i j : Nat} {d : D} {a : Addr} (hi : i < 1000) (hj : j < 1000) (h : i ≠ j) (z : Pt (upA (upA A i p) (i + 1000) q) j d a) : Pt A j d a := by
  unfold Pt at z ⊢
  rwa [PD.upA_ne (show i + 1000 ≠ j by omega), PD.upA_ne h, PD.upA_ne (show i + 1000 ≠ j + 1000 by omega), PD.upA_ne (show i ≠ j + 1000 by omega)] at z
end
def mSeqB (m1 : MS) (m2 : Rho → Option (D × Rho)) : Rho → Option (D × Rho) := fun ρ => match m1 ρ with
  | some (.nx ρ1) => m2 ρ1
  | _ => none
section
variable {X : Cx} {F : Frm} {pos p : Pos}
def mRetB (i : Nat) (m3 : M D) : Rho → Option (D × Rho) := fun ρ => match ρ[i]? with
  | some (some (true, .list gs)) => (match allInts gs with
    | some ns => (match m3 ρ with
      | some (dc, ρ1) => some (bagD 0 0 ns dc, ρ1)
      | none => none)
    | none => none)
  | _ => none
end
def runB (n : Nat) (m : Rho → Option (D × Rho)) (ds : List D) : Option (D × List D) := (m (startR [] n ds)).map fun r => (r.1, backR r.2 ds.length)
section
variable {P : Program} {w : World} {K : PySem.W.Frag} {mg : Str → Option Value} {base : Heap}
end
section
variable {X : Cx} {F : Frm} {pos p : Pos}
theorem putBack_none {ds : List D} {ρ : Rho} : putBack [none] ds ρ = ρ := by
  cases ds <;> simp [putBack]
end
end PD
set_option Elab.async false
set_option linter.all false
set_option maxRecDepth 100000
set_option maxHeartbeats 2000000
namespace PD
open PySem PySem.Spec PyProof.Rows L2 GxR GenX OwnK
def leS (a b : Str) : Bool := !ltCps b.cps.toList a.cps.toList
theorem leS_iff {a b : Str} : leS a b = true ↔ a.cps.toList ≤ b.cps.toList := by
  unfold leS
  rw [ltCps_eq, Bool.not_eq_true', decide_eq_false_iff_not]
  exact Iff.rfl
theorem leS_trans {a b c : Str} (h1 : leS a b = true) (h2 : leS b c = true) : leS a c = true := leS_iff.mpr (List.le_trans (leS_iff.mp h1) (leS_iff.mp h2))
theorem leS_total (a b : Str) : (leS a b || leS b a) = true := by
  rw [Bool.or_eq_true, leS_iff, leS_iff]
  exact List.le_total _ _
theorem leS_anti {a b : Str} (h1 : leS a b = true) (h2 : leS b a = true) : a = b := by
  have h := List.le_antisymm (leS_iff.mp h1) (leS_iff.mp h2)
  cases a; cases b
  exact congrArg Str.mk (Array.toList_inj.mp h)
def sortS (zs : List Str) : List Str := zs.mergeSort leS
theorem sortS_perm (zs : List Str) : (sortS zs).Perm zs := List.mergeSort_perm zs _
theorem sortS_sorted (zs : List Str) : (sortS zs).Pairwise fun a b => leS a b = true := List.pairwise_mergeSort (le := leS) (fun a b c h1 h2 => leS_trans h1 h2) (fun a b => leS_total a b) zs
theorem rising_pw : ∀ (p : Str) (l : List Str), risingS p l = true → (p :: l).Pairwise fun a b => leS a b = true
  | p, [], _ => List.pairwise_singleton _ _
  | p, x :: r, h => by
    unfold risingS at h
    rw [Bool.and_eq_true] at h
    have ih := rising_pw x r h.2
    have hx : leS p x = true := h.1
    refine List.pairwise_cons.mpr ⟨fun b hb => ?_, ih⟩
    rcases List.mem_cons.mp hb with hb | hb
    · rw [hb]; exact hx
    · exact leS_trans hx ((List.pairwise_cons.mp ih).1 b hb)
theorem sorted_pw {l : List Str} (h : sortedS l = true) : l.Pairwise fun a b => leS a b = true := by
  cases l with
  | nil => exact .nil
  | cons x r => exact rising_pw x r h
theorem sorted_uniqS {xs ys : List Str} (p : xs.Perm ys) (hx : xs.Pairwise fun a b => leS a b = true) (hy : ys.Pairwise fun a b => leS a b = true) : xs = ys := List.Perm.eq_of_pairwise (fun a b _ _ h1 h2 => leS_anti h1 h2) hx hy p
def keyStrs : List (D × D) → Option (List Str) := fun kvs => strsOf (kvs.map (·.1))
def gSortedS : List D → Option D
  | [.list ds] => (strsOf ds).bind fun zs => if zs.length < 64 then some (.list ((sortS zs).map .str)) else none
  | [.dict kvs] => (keyStrs kvs).bind fun zs => if isT kvs = false ∧ zs.length < 64 then some (.list ((sortS zs).map .str)) else none
  | _ => none
section
variable {X : Cx} {F : Frm} {pos p : Pos} {K : KWd}
theorem rels_strs {S : Addr → Prop} {H : Hp} : ∀ zs : List Str, RelDs K S H (zs.map V.str) (zs.map .str)
  | [] => .nil
  | z :: r => .cons (.str z) (rels_strs r)
theorem RelKs.strs {S : Addr → Prop} {H : Hp} : ∀ {kvs : List (Key × V)} {ds : List (D × D)} {zs : List Str}, RelKs K S H kvs ds → strsOf (ds.map (·.1)) = some zs → kvs.map (·.1) = zs.map Sum.inr
  | _, _, zs, .nil, h => by cases h; rfl
  | _, _, zs, .cons (k := k) (ds := ds) r t, h => by
    cases k with
    | inl i => cases h
    | inr z =>
      have h : (strsOf (ds.map (·.1))).map (z :: ·) = some zs := h
      cases q : strsOf (ds.map (·.1)) with
      | none => rw [q] at h; cases h
      | some l =>
        rw [q] at h
        cases h
        rw [List.map_cons, List.map_cons, RelKs.strs t q]
theorem c_sortedS (hcalm : X.calm = true) (hK : X.kw = K := by rfl) : CallR X (.builtin "sorted") (rcall K gSortedS) := by
  subst hK
  intro pins s σ H xs us Q I r ⟨S, ds, d, hr, e, occ, k⟩
  unfold gSortedS at e
  split at e
  · rename_i l
    cases q : strsOf l with
    | none => rw [q] at e; cases e
    | some zs =>
      rw [q] at e
      have e : (if zs.length < 64 then some (PyData.list ((sortS zs).map .str)) else none) = some d := e
      split at e
      · rename_i h64
        cases e
        obtain ⟨v, rfl, r1⟩ := prs1 hr
        obtain ⟨a, ys, rfl, h1, q1⟩ := r1.list
        have z := strsOf_rel q q1
        subst z
        refine cr_sortedS pins s σ H _ us Q I r ⟨a, zs, rfl, h1, h64, fun ys p hp hs hn => ?_⟩
        have e : ys = sortS zs := sorted_uniqS (hp.trans (sortS_perm zs).symm) (sorted_pw hs) (sortS_sorted zs)
        subst e
        exact k _ _ (Ext.new hn) (.lst (fun z => occ _ z hn) (.inl upd_same) ((rels_strs _).ext (Ext.new hn)))
      · cases e
  · rename_i kvs
    cases q : keyStrs kvs with
    | none => rw [q] at e; cases e
    | some zs =>
      rw [q] at e
      have e : (if isT kvs = false ∧ zs.length < 64 then some (PyData.list ((sortS zs).map .str)) else none) = some d := e
      split at e
      · rename_i h64
        cases e
        obtain ⟨v, rfl, r1⟩ := prs1 hr
        obtain ⟨a, ys, rfl, h1, q1⟩ := r1.dict h64.1
        refine call_sortedD hcalm pins s σ H _ us Q I r ⟨a, ys, zs, rfl, h1, q1.strs q, h64.2, fun ys p hp hs hn => ?_⟩
        have e : ys = sortS zs := sorted_uniqS (hp.trans (sortS_perm zs).symm) (sorted_pw hs) (sortS_sorted zs)
        subst e
        exact k _ _ (Ext.new hn) (.lst (fun z => occ _ z hn) (.inl upd_same) ((rels_strs _).ext (Ext.new hn)))
      · cases e
  · cases e
def gSorted2 (ds : List D) : Option D := match gSorted ds with
  | some d => some d
  | none => gSortedS ds
theorem c_sorted2 (hcalm : X.calm = true) (hK : X.kw = K := by rfl) : CallR X (.builtin "sorted") (rcall K gSorted2) := by
  intro pins s σ H xs us Q I r ⟨S, ds, d, hr, e, occ, k⟩
  unfold gSorted2 at e
  split at e
  · rename_i d' e'
    cases e
    exact c_sorted hcalm hK pins s σ H xs us Q I r ⟨S, ds, _, hr, e', occ, k⟩
  · exact c_sortedS hcalm hK pins s σ H xs us Q I r ⟨S, ds, d, hr, e, occ, k⟩
def gRevL : D → Option D
  | .list ds => some (.list ds.reverse)
  | _ => none
theorem x_revL {e : Expr} {m : M D} {dep eff : List Nat} {k : Nat} {p1 p2 p3 : Pos} (he : PE X e (rd F m dep eff)) (hK : X.kw = F.K := by rfl) : PE X (.Subscript e (.Slice none none (some (.UnaryOp .USub (.Constant (.int 1) k p1) p2)) p3) pos) (rdN F (mUn gRevL m) eff) :=
  PE.mono (pe_revL he) fun σ H Q ⟨B, A, ρ, d, ρ1, E, hm, k⟩ => by
    obtain ⟨d1, e1, e2⟩ := mUn_some hm
    unfold gRevL at e2
    split at e2
    · cases e2
      refine ⟨B, A, ρ, _, ρ1, E, e1, fun v H1 P r => ?_⟩
      obtain ⟨a, xs, rfl, h1, q1⟩ := (r.rr P.env).list
      exact ⟨a, xs, rfl, hK.kwK ▸ h1, fun q hq => rdN_lay P k hq (Ext.new hq) ⟨_, upd_same, (q1.reverse.away hq av_cons).ext (Ext.new hq)⟩⟩
    · cases e2
def gMulI : D → D → Option D
  | .int a, .int b => if (-18446744073709551616 < a ∧ a < 18446744073709551616) ∨ (-18446744073709551616 < b ∧ b < 18446744073709551616) then some (.int (a * b)) else none
  | _, _ => none
theorem sext (i : Nat) {x : Str} {e : Expr} {m : M D} {eff : List Nat} {pos' : Pos} (hN : X.N.Nodup) (he : PE X e (rdN F m eff)) (hi : X.N[i]? = some x := by rfl) (hx : Loc X.env.scope x := by first | exact Or.inl rfl | exact Or.inr rfl) (hne : (!decide (i ∈ eff)) = true := by rfl)
    (hf : X.fn x = true ∨ X.env.scope.names.lookup x = some .local := by first | exact .inl rfl | exact .inr rfl) : PS X (.AugAssign (.Name x pos') .Add e pos) (rdS F (mExt i m)) := s_ext hN hi hx he (nio hne) hf
end
end PD
set_option Elab.async false
set_option linter.all false
set_option maxRecDepth 100000
set_option maxHeartbeats 2000000
namespace PD
open PySem PySem.Spec PyProof.Rows L2 GxR GenX OwnK
section
variable {X : Cx} {F : Frm} {pos p : Pos} {K : KWd}
def gListOf2 : List D → Option D
  | [.str z] => if z.length ≤ sizeLine then some (.list (z.cps.toList.map fun c => .str ⟨#[c]⟩)) else none
  | ds => gListOf ds
theorem vals_signs {x : Str} {acc : Array Value} (h : ItemsOf (SignAt x) acc x.cps.size) : Vals (x.cps.toList.map fun c => V.str ⟨#[c]⟩) acc.toList := by
  have e : acc.toList.length = x.cps.toList.length := by rw [Array.length_toList, Array.length_toList]; exact h.1
  have key : ∀ (us : List Value) (cs : List Nat), us.length = cs.length → (∀ (j : Nat) (u : Value), us[j]? = some u → ∃ (c : Nat) (t : Tok), cs[j]? = some c ∧ u = Value.str ⟨#[c]⟩ t) → Vals (cs.map fun c => V.str ⟨#[c]⟩) us := by
    intro us
    induction us with
    | nil => intro cs hl _; cases cs with
      | nil => exact .nil
      | cons _ _ => cases hl
    | cons u r ih =>
      intro cs hl h
      cases cs with
      | nil => cases hl
      | cons c cs =>
        obtain ⟨c', t, h1, h2⟩ := h 0 u rfl
        cases h1
        exact .cons ⟨t, h2⟩ (ih cs (Nat.succ.inj hl) fun j w hw => h (j + 1) w hw)
  refine key _ _ e fun j u hj => ?_
  obtain ⟨c, t, h1, h2⟩ := h.2 j u (by rw [← hj, Array.getElem?_toList])
  exact ⟨c, t, by rw [Array.getElem?_toList]; exact h1, h2⟩
theorem rel_signs {K : KWd} {S : Addr → Prop} {H : Hp} : ∀ l : List Nat, RelDs K S H (l.map fun c => V.str ⟨#[c]⟩) (l.map fun c => .str ⟨#[c]⟩)
  | [] => .nil
  | i :: l => .cons (.str _) (rel_signs l)
theorem c_listN2 (hc : X.calm = true) {K : KWd} (hK : X.kw = K := by rfl) : CallR X (.type "list") (fun xs H Q => ∃ S ds d, Paired (RR K S H) xs ds ∧ gListOf2 ds = some d ∧ ∀ p H', H p = none → Ext H H' → (∀ S' : Addr → Prop, (∀ a, S' a → S a ∨ a = p) → RelO K S' H' p d) → Q (.ref p) H') := by
  intro pins s σ H xs us Q I r ⟨S, ds, d, hr, e, k⟩
  unfold gListOf2 at e
  split at e
  · rename_i z
    split at e
    · rename_i hz
      cases e
      obtain ⟨v, rfl, r1⟩ := prs1 hr
      have ev := r1.str
      subst ev
      obtain ⟨u, rfl, ru⟩ := vals1 r
      obtain ⟨t, rfl⟩ := ru
      refine call_list_str (I.ok.hd hc) z t (hn := hz) fun h' tk acc c' hk e' hi => ?_
      have hf : H s.heap.objs.size = none := I.hok.fresh (Nat.le_refl _)
      refine ⟨.ref s.heap.objs.size, upd H s.heap.objs.size (.lst (z.cps.toList.map fun c => V.str ⟨#[c]⟩)), I.laid hk (Nat.le_refl _) (show ObjOk X.prog X.w _ _ _ (.lst _) from ⟨?_, acc.toList, c', vals_signs hi, ?_⟩), rfl, k _ _ hf (Ext.new hf) fun S' hs => ⟨_, upd_same, ?_⟩⟩
      · rw [List.length_map, Array.length_toList]; exact hz
      · rw [Array.toArray_toList]; exact e'
      · exact rel_signs _
    · cases e
  · exact c_listN hc hK pins s σ H xs us Q I r ⟨S, ds, d, hr, e, k⟩
end
end PD
set_option Elab.async false
set_option linter.all false
set_option maxRecDepth 100000
set_option maxHeartbeats 2000000
namespace PD
open PySem PySem.Spec PyProof.Rows L2 GxR GenX OwnK
section
variable {X : Cx} {K : KWd}
def gSum2 : List D → Option D
  | [.list ds] => (allInts ds).map fun ns => .int ns.sum
  | [.tuple ds] => (allInts ds).map fun ns => .int ns.sum
  | _ => none
end
end PD
set_option Elab.async false
set_option linter.all false
set_option maxRecDepth 100000
set_option maxHeartbeats 2000000
namespace PD
open PySem PySem.Spec PyProof.Rows L2 GxR GenX OwnK
section
variable {K : KWd}
end
section
variable {X : Cx} {F : Frm} {pos p : Pos} {tg : Expr} {K : KWd}
def mRev (m : M D) : M (List D) := fun ρ => match m ρ with
  | some (d, ρ1) => (match gItems d with
    | some ds => some (ds.reverse, ρ1)
    | none => none)
  | none => none
def gLt2 : D → D → Option D
  | .tuple a, .tuple b => match allInts a, allInts b with
    | some ns, some ms => some (.bool (HT.lexLt ns ms))
    | _, _ => none
  | a, b => gLt a b
end
end PD
set_option Elab.async false
set_option linter.all false
set_option maxRecDepth 100000
set_option maxHeartbeats 2000000
namespace PD
open PySem PySem.Spec PyProof.Rows L2 GxR GenX OwnK
def sortD (ds : List D) : List D := ds.mergeSort (PySem.W.dataLe false id)
def tupNe : D → Bool
  | .tuple (_ :: _) => true
  | _ => false
section
variable {K : KWd} {S : Addr → Prop} {H : Hp} {P : Program} {w : World}
theorem each_rel : ∀ {ys : List V} {its : List Value} {ds : List D}, Vals ys its → RelDs K S H ys ds → PySem.W.EachIs (fun u (b : V × D) => RelV b.1 u ∧ RelD K S H b.1 b.2) its (ys.zip ds)
  | _, _, _, .nil, .nil => .nil
  | _, _, _, .cons r t, .cons d q => .cons ⟨r, d⟩ (each_rel t q)
theorem each_vals {R : V × D → Prop} : ∀ {out : List Value} {L : List (V × D)}, PySem.W.EachIs (fun u (b : V × D) => RelV b.1 u ∧ RelD K S H b.1 b.2) out L → Vals (L.map (·.1)) out ∧ RelDs K S H (L.map (·.1)) (L.map (·.2))
  | _, _, .nil => ⟨.nil, .nil⟩
  | _, _, .cons h t => ⟨.cons h.1 (each_vals (R := R) t).1, .cons h.2 (each_vals (R := R) t).2⟩
end
section
variable {X : Cx} {K : KWd}
theorem zip_snd {α β : Type} : ∀ {xs : List α} {ys : List β}, xs.length = ys.length → (xs.zip ys).map (·.2) = ys
  | [], [], _ => rfl
  | _ :: xs, _ :: ys, h => by
    rw [List.zip_cons_cons, List.map_cons, zip_snd (by simpa using h)]
theorem each_reads {pins : List (Addr × Obj)} {σ : L2.St} {H : Hp} {S : Addr → Prop} {s : Shared} (I : Inv X pins σ H s) : ∀ {its : List Value} {bs : List (V × D)}, PySem.W.EachIs (fun u (b : V × D) => RelV b.1 u ∧ RelD X.kw S H b.1 b.2) its bs → (∀ b ∈ bs, noD b.2 = true) → PySem.W.EachIs (fun u (b : V × D) => ∃ as, Reads s.heap u b.2 as) its bs
  | _, _, .nil, _ => .nil
  | _, _, .cons h t, hn => .cons (Dp.reads I _ _ _ (RelD.dp _ _ h.2 (hn _ List.mem_cons_self)) h.1) (each_reads I t fun b hb => hn b (List.mem_cons_of_mem _ hb))
theorem tupNe_of {d : D} (h : tupNe d = true) : ∃ x r, d = .tuple (x :: r) := by
  unfold tupNe at h
  split at h
  · exact ⟨_, _, rfl⟩
  · cases h
end
end PD
set_option Elab.async false
set_option linter.all false
set_option maxRecDepth 100000
set_option maxHeartbeats 2000000
namespace PD
open PySem PySem.Spec PyProof.Rows L2 GxR GenX OwnK
section
variable {X : Cx} {pins : List (Addr × Obj)} {σ : L2.St} {H : Hp} {s : Shared}
theorem pairs2 (I : Inv X pins σ H s) : ∀ {qs : List Addr} {ks : List (Key × V)}, Paired (fun q kv => SqT X.K H q [kV kv.1, kv.2]) qs ks →
    ∃ (prs : List (Key × Value)) (psv : List (Value × Value)), KV ks prs ∧ prs.length = qs.length ∧ psv.length = qs.length ∧ ∀ (j : Nat) (k v : Value), psv[j]? = some (k, v) → ∃ (key : Key) (b : Addr), prs[j]? = some (key, v) ∧ qs[j]? = some b ∧ IsTup s.heap b #[k, v] ∧ keyIs key k = true
  | _, _, .nil => ⟨[], [], .nil, rfl, rfl, fun j k v z => by simp at z⟩
  | _, _, .cons (a := q) (b := kv) hq t => by
    obtain ⟨prs, psv, r, l1, l2, hp⟩ := pairs2 I t
    obtain ⟨its, rv, ht, _⟩ := I.tuple hq
    cases rv with
    | cons r1 rv =>
      cases rv with
      | cons r2 rv =>
        cases rv
        rename_i u1 u2
        refine ⟨(kv.1, u2) :: prs, (u1, u2) :: psv, .cons ⟨rfl, r2⟩ r, by simp [l1], by simp [l2], fun j k v z => ?_⟩
        cases j with
        | zero =>
          cases (show (u1, u2) = (k, v) from Option.some.inj z)
          exact ⟨kv.1, q, rfl, rfl, ht, kV_is (P := X.prog) (w := X.w) r1⟩
        | succ j => simpa using hp j k v (by simpa using z)
theorem call_dictPT (hcalm : X.calm = true) : CallR X (.type "dict") (fun xs H Q => ∃ (a : Addr) (qs : List Addr) (ks : List (Key × V)), xs = [.ref a] ∧ SqT X.K H a (qs.map V.ref) ∧ IsT X.kw H a ∧ Paired (fun q kv => SqT X.K H q [kV kv.1, kv.2]) qs ks ∧
    ∀ y, H y = none → Q (.ref y) (upd H y (.dK (mergeK [] ks)))) := by
  intro pins s σ H xs us Q I r ⟨a, qs, ks, ex, hs, it, hp, fin⟩
  subst ex
  cases r with
  | cons r0 r =>
    cases r
    cases r0
    obtain ⟨its, rv, pl, hz⟩ := I.tuple hs
    cases refs_at rv
    obtain ⟨prs, psv, rel, l1, l2, hpr⟩ := pairs2 I hp
    have hob : ∃ ob, s.heap.get? a = some ob ∧ ob.cls = .type "tuple" ∧ ob.dict = none := by
      rcases it with ⟨ys, ob, e1, hc, hd⟩ | ⟨ob, e1, hc, hd⟩
      · exact ⟨ob, (show ObjOk X.prog X.w H s.heap a (.frz ob (.tup ys)) from I.hok a _ e1).1, hc, hd⟩
      · exact ⟨ob, I.kIn a ob e1, hc, hd⟩
    obtain ⟨ob, hob, hc, hd⟩ := hob
    obtain ⟨ob', e2, _, n, hdat⟩ := pl
    cases hob.symm.trans e2
    rw [List.length_map] at hz
    have hps : PlainSeq "tuple" s.heap a (qs.map Value.ref).toArray := ⟨ob, n, hob, hc, hd, hdat⟩
    have hpi : PairItems s.heap (qs.map Value.ref).toArray (fun j => qs.getD j 0) psv := by
      refine ⟨by simp [l2], fun j k v e => ?_⟩
      obtain ⟨key, b, g1, g2, g3, g4⟩ := hpr j k v e
      have eb : qs.getD j 0 = b := by rw [List.getD_eq_getElem?_getD, g2]; rfl
      show (qs.map Value.ref).toArray[j]? = some (.ref (qs.getD j 0)) ∧ PairAt s.heap (qs.getD j 0) k v
      rw [eb]
      exact ⟨by simp [g2], .inl g3⟩
    have P := PairArg.tuple (prog := X.prog) (w := X.w) a (qs.map Value.ref).toArray (fun j => qs.getD j 0) psv
    refine PySem.call_dict_pairs (knd := mixKind X.prog X.w) (kvs := prs) P (I.ok.hd hcalm) ⟨hps, hpi⟩ ⟨by rw [l1, l2], fun j k v e => ?_⟩ (by rw [l2]; exact hz) fun h' tk hd' kp => ?_
    · obtain ⟨key, b, g1, g2, g3, g4⟩ := hpr j k v e
      exact ⟨key, g1, g4⟩
    · have hm : (s.heap.objs.size == sysModules) = false := beq_eq_false_iff_ne.mpr (Nat.ne_of_gt I.big)
      have hlen : (mergeK [] ks).length ≤ sizeLine := by
        have g1 := length_mergeK ks []
        have g2 := rel.length
        simp only [List.length_nil] at g1
        omega
      exact ⟨.ref s.heap.objs.size, upd H s.heap.objs.size (.dK (mergeK [] ks)), I.laid (t' := tk) (fun b o e => kp b o (by simp) e) (Nat.le_refl _) (show ObjOk X.prog X.w _ _ _ (.dK (mergeK [] ks)) from ⟨hlen, hm, merged [] prs, KV.merge rel .nil, hd'⟩), rfl, fin _ (I.hok.fresh (Nat.le_refl _))⟩
end
def gDictQ : D → Option D
  | .list ds => (pairsOf ds).map fun l => .dict (dmerge [] l)
  | .tuple ds => (pairsOf ds).map fun l => .dict (dmerge [] l)
  | _ => none
section
variable {X : Cx} {F : Frm} {pos p : Pos}
theorem call_dictQ (hcalm : X.calm = true) : CallR X (.type "dict") (fun xs H Q => ∃ (a : Addr) (qs : List Addr) (ks : List (Key × V)), xs = [.ref a] ∧ (SqL X.K H a (qs.map V.ref) ∨ (SqT X.K H a (qs.map V.ref) ∧ IsT X.kw H a)) ∧ Paired (fun q kv => SqT X.K H q [kV kv.1, kv.2]) qs ks ∧
    ∀ y, H y = none → Q (.ref y) (upd H y (.dK (mergeK [] ks)))) := by
  intro pins s σ H xs us Q I r ⟨a, qs, ks, ex, hs, hp, fin⟩
  rcases hs with hs | ⟨hs, it⟩
  · exact call_dictP hcalm pins s σ H xs us Q I r ⟨a, qs, ks, ex, hs, hp, fin⟩
  · exact call_dictPT hcalm pins s σ H xs us Q I r ⟨a, qs, ks, ex, hs, it, hp, fin⟩
theorem x_dictQ {e : Expr} {m : M D} {dep eff : List Nat} (hc : X.calm = true) (hg : Gl X "dict") (hm : X.mg "dict" = none) (he : PE X e (rd F m dep eff)) (hK : X.kw = F.K := by rfl)
    (hs : starEach [e] X.env = (false, eval e X.env) :: starEach [] X.env := by rfl) (hpl : (backTo pos (starEach [] X.env)).any (·.1) = false := by rfl) : PE X (.Call (.Name "dict" p) [e] [] pos) (rdN F (mUn gDictQ m) eff) :=
  PE.mono (pe_callTy (call_dictQ hc) hg hm (by decide +kernel) (pa_cons he pa_nil hs) (by decide) (by decide) hs hpl) fun σ H Q ⟨B, A, ρ, d, ρ1, E, hm, k⟩ => by
    obtain ⟨d1, e1, e2⟩ := mUn_some hm
    unfold gDictQ at e2
    split at e2
    · rename_i ds
      cases q : pairsOf ds with
      | none => rw [q] at e2; cases e2
      | some l =>
        rw [q] at e2
        cases e2
        refine ⟨B, A, ρ, _, ρ1, E, e1, fun v H1 P r => ?_⟩
        obtain ⟨a, xs, rfl, h1, q1⟩ := (r.rr P.env).list
        obtain ⟨ps, kvs, rfl, hp, hr⟩ := pairs_rel q q1
        refine ⟨a, ps, kvs, rfl, .inl (hK.kwK ▸ h1), hK.kwK ▸ hp, fun y hy => ?_⟩
        exact rdN_lay P k hy (Ext.new hy) (.inl ⟨_, upd_same, (RelKs.away (merge_rel hr .nil) hy av_cons).ext (Ext.new hy)⟩)
    · rename_i ds
      cases q : pairsOf ds with
      | none => rw [q] at e2; cases e2
      | some l =>
        rw [q] at e2
        cases e2
        refine ⟨B, A, ρ, _, ρ1, E, e1, fun v H1 P r => ?_⟩
        obtain ⟨a, xs, rfl, h1, q1, it⟩ := isT_of (r.rr P.env)
        obtain ⟨ps, kvs, rfl, hp, hr⟩ := pairs_rel q q1
        refine ⟨a, ps, kvs, rfl, .inr ⟨hK.kwK ▸ h1, hK ▸ it⟩, hK.kwK ▸ hp, fun y hy => ?_⟩
        exact rdN_lay P k hy (Ext.new hy) (.inl ⟨_, upd_same, (RelKs.away (merge_rel hr .nil) hy av_cons).ext (Ext.new hy)⟩)
    · cases e2
end
def ItkX (w : World) (d : Addr) (od : Obj) (xs : List (List Key × Addr × Value)) : It where
  go i H := H d = some (.frz od (.ext (TDict w d xs))) ∧ i < xs.length
  yld i H x H' := H' = H ∧ ∃ ks b u, xs[i]? = some (ks, b, u) ∧ x = .ref b
  stop i H := H d = some (.frz od (.ext (TDict w d xs))) ∧ xs.length ≤ i
theorem tdx_at {X : Cx} {pins : List (Addr × Obj)} {σ : L2.St} {H : Hp} {s : Shared} {d : Addr} {od : Obj} {xs : List (List Key × Addr × Value)} (I : Inv X pins σ H s) (h : H d = some (.frz od (.ext (TDict X.w d xs)))) :
    (d == sysModules) = false ∧ s.heap.get? d = some od ∧ od.ExactDict ∧ ∃ es ep, od.data = .dict es ep ∧ es.size = xs.length ∧ ∀ (i : Nat) (ks : List Key) (b : Addr) (u : Value), xs[i]? = some (ks, b, u) → ∃ en : DictEntry, es[i]? = some en ∧ en.key = .ref b := by
  obtain ⟨g0, ⟨g1, g2, od', es, ep, g3, g4, g5, g6, g7⟩, _⟩ := (show ObjOk X.prog X.w H s.heap d (.frz od (.ext (TDict X.w d xs))) from I.hok d _ h)
  cases g0.symm.trans g3
  have hl : es.size = xs.length := by
    have := congrArg List.length g6
    simpa using this
  refine ⟨g1, g0, g4, es, ep, g5, hl, fun i ks b u e => ?_⟩
  have h2 : es.toList[i]? = some ⟨hashT X.w ks, .ref b, u⟩ := by rw [g6, List.getElem?_map, e]; rfl
  exact ⟨_, by simpa using h2, rfl⟩
theorem turn_kx {P : Program} {w : World} {K : PySem.W.Frag} {tg : Expr} {d : Addr} {od : Obj} {es0 : Array DictEntry} {ep0 : Nat} {xs : List (List Key × Addr × Value)} (it : Addr) (hod : od.data = .dict es0 ep0) : Turn P w K tg (ItkX w d od xs) [it] it (fun i h => h.IsKeyIter it d i xs.length ep0) where
  mem := List.mem_singleton_self it
  obj := fun i h st c hcm => by
    cases List.mem_singleton.mp hcm
    obtain ⟨oi, g1, g2, g3⟩ := st
    exact ⟨oi, g1, fun v z => by rw [g3] at z; cases z⟩
  keep := fun i h h' st kp => st.at fun oi g => kp it (List.mem_singleton_self it) oi g
  item := by
    rintro X rfl rfl rfl hcalm i pins s σ H E I hf st ⟨hd, hi⟩
    obtain ⟨f0, f1, f2, f3, f4, f5⟩ := hf it (List.mem_singleton_self it)
    obtain ⟨g1, g2, g3, es, ep, g4, g5, g6⟩ := tdx_at I hd
    cases hod.symm.trans g4
    obtain ⟨⟨ks, b, u⟩, hx⟩ : ∃ p, xs[i]? = some p := ⟨xs[i], List.getElem?_eq_getElem hi⟩
    obtain ⟨en, g7, g8⟩ := g6 i ks b u hx
    refine next_key_item st g2 g4 g5 g7 fun h' st' sb => ?_
    have I1 : Inv X pins σ H { s with heap := h' } := I.turned (t' := s.toks) (fun c o hc e => (sb.2 c hc).trans e) f0 f1 f3 f4 f5
    obtain ⟨oi, e1, e2, e3⟩ := id st'
    rw [g8]
    exact ⟨.ref b, rfl, go_of (s := { s with heap := h' }) e1 e2 e3 (by decide) ⟨.ref b, H, I1, rfl, ⟨rfl, ks, b, u, hx, rfl⟩, st', fun c hc => (hf c hc).1⟩⟩
  done := by
    rintro X rfl rfl rfl hcalm i pins s σ H E I hf st ⟨hd, hi⟩
    obtain ⟨f0, f1, f2, f3, f4, f5⟩ := hf it (List.mem_singleton_self it)
    obtain ⟨g1, g2, g3, es, ep, g4, g5, g6⟩ := tdx_at I hd
    cases hod.symm.trans g4
    exact next_key_end (I.ok.hd hcalm) st g2 g4 g5 hi fun h' eb => ⟨rfl, I.turned (t' := s.toks) (fun c o hc e => eb c o hc e) f0 f1 f3 f4 f5⟩
  self := fun A i s Q E st q => wpAny_pyIter_keyiter st q
def iKeysX (w : World) (td : TE) : TI := fun σ H R => td σ H fun x H1 => ∃ d od xs, x = .ref d ∧ H1 d = some (.frz od (.ext (TDict w d xs))) ∧ R (ItkX w d od xs) H1
theorem pi_keysX {X : Cx} {tg e : Expr} {td : TE} (he : PE X e td) : PI X tg e (iKeysX X.w td) := by
  refine ⟨fun pins s σ H R I hq => ?_⟩
  refine thn (he.run pins s σ H _ I hq) fun u s1 ⟨x, H1, I1, rx, d, od, xs, ex, hd, q⟩ => ?_
  subst ex
  cases (show u = Value.ref d from rx)
  obtain ⟨g1, g2, g3, es, ep, g4, g5, g6⟩ := tdx_at I1 hd
  refine iter_keys g1 g2 g3 g4 (pi_one (tk := s1.toks) I1 _ (turn_kx _ g4) ⟨_, Heap.get?_push_size _ rfl, rfl, ?_⟩ q)
  rw [g5] <;> rfl
def gItems2 : D → Option (List D)
  | .list ds => some ds
  | .tuple ds => some ds
  | .dict kvs => match isT kvs with
    | false => some (kvs.map (·.1))
    | true => (match tdE (.dict kvs) with
      | some es => some (es.map (·.1))
      | none => none)
  | _ => none
section
variable {K : KWd} {S : Addr → Prop} {H : Hp}
theorem RelKs.keyL : ∀ {kvs : List (Key × V)} {ds : List (D × D)}, RelKs K S H kvs ds → ds.map (·.1) = kvs.map fun q => kD q.1
  | _, _, .nil => rfl
  | _, _, .cons _ t => by rw [List.map_cons, List.map_cons, RelKs.keyL t]
theorem RelTs.keyL : ∀ {xs : List (List Key × Addr × Value)} {ds : List (D × D)}, RelTs K S H xs ds → ds.map (·.1) = xs.map fun q => .tuple (q.1.map kD)
  | _, _, .nil => rfl
  | _, _, .cons _ _ _ t => by rw [List.map_cons, List.map_cons, RelTs.keyL t]
theorem rel_kD (k : Key) : RelD K S H (kV k) (kD k) := by
  cases k with
  | inl i => exact .int i
  | inr z => exact .str z
theorem rel_kDs : ∀ ks : List Key, RelDs K S H (ks.map kV) (ks.map kD)
  | [] => .nil
  | k :: ks => .cons (rel_kD k) (rel_kDs ks)
theorem KeyAt.relT {b : Addr} {ks : List Key} (h : KeyAt K S H b ks) : RelD K S H (.ref b) (.tuple (ks.map kD)) := by
  rcases h with ⟨n, h⟩ | h
  · exact .tup n h (rel_kDs ks)
  · exact .tupK h (rel_kDs ks)
theorem it_keysK {a : Addr} {od : Obj} {kv : List (Key × V)} {ds : List D} (hds : ds = kv.map fun q => kD q.1) : ItOk K (Itk a od kv) ds [.inr (a, .frz od (.dK kv))] := by
  subst hds
  refine ⟨fun i S H r hi => ?_, fun S H r => ?_, fun i S H x H' r _ hi y => ?_⟩
  · exact ⟨(r _ List.mem_cons_self).2.1, by simpa using hi⟩
  · exact ⟨(r _ List.mem_cons_self).2.1, by simp⟩
  · obtain ⟨e, k, v, hk, ex⟩ := y
    subst e ex
    exact ⟨Ext.refl _, kD k, by rw [List.getElem?_map, hk]; rfl, rel_kD k⟩
theorem it_keysX {a : Addr} {od : Obj} {xs : List (List Key × Addr × Value)} {ds : List D} (hds : ds = xs.map fun q => .tuple (q.1.map kD)) : ItOk K (ItkX K.w a od xs) ds (.inr (a, .frz od (.ext (TDict K.w a xs))) :: xs.map fun q => .inl (.ref q.2.1, .tuple (q.1.map kD))) := by
  subst hds
  refine ⟨fun i S H r hi => ?_, fun S H r => ?_, fun i S H x H' r _ hi y => ?_⟩
  · exact ⟨(r _ List.mem_cons_self).2.1, by simpa using hi⟩
  · exact ⟨(r _ List.mem_cons_self).2.1, by simp⟩
  · obtain ⟨e, ks, b, u, hk, ex⟩ := y
    subst e ex
    exact ⟨Ext.refl _, .tuple (ks.map kD), by rw [List.getElem?_map, hk]; rfl, r (.inl (.ref b, .tuple (ks.map kD))) (List.mem_cons_of_mem _ (List.mem_map.mpr ⟨_, List.mem_of_getElem? hk, rfl⟩))⟩
end
def mItems2 (m : M D) : M (List D) := fun ρ => match m ρ with
  | some (d, ρ1) => (match gItems2 d with
    | some ds => some (ds, ρ1)
    | none => none)
  | none => none
theorem w_seq2 {X : Cx} {F : Frm} {tg e : Expr} {m : M D} {eff : List Nat} (he : PE X e (rd F m [] eff)) (hK : X.kw = F.K := by rfl) : PI X tg e (rdI F (mItems2 m) eff) := by
  refine ⟨fun pins s σ H R I ⟨B, A, ρ, ds, ρ', E, hm, k⟩ => ?_⟩
  have old : ∀ d, m ρ = some (d, ρ') → gItems d = some ds → wpAny (model X.prog X.w) X.A (eval e X.env) (fun v s1 => wpAny (model X.prog X.w) X.A (pyIter v) (PIE X pins σ tg R) X.xe s1) X.xe s := fun d e1 e2 =>
    (w_seq (tg := tg) he hK).run pins s σ H R I ⟨B, A, ρ, ds, ρ', E, by unfold mItems; rw [e1]; simp only [e2], k⟩
  unfold mItems2 at hm
  split at hm
  · rename_i d ρ1 e1
    split at hm
    · rename_i ds' e2
      cases hm
      cases d with
      | list l => exact old _ e1 e2
      | tuple l => exact old _ e1 e2
      | dict kvs =>
        have e2 : (match isT kvs with
          | false => some (kvs.map (·.1))
          | true => (match tdE (.dict kvs) with
            | some es => some (es.map (·.1))
            | none => none)) = some ds := e2
        · split at e2
          · rename_i hT
            cases e2
            refine (pi_keys he).run pins s σ H R I ⟨B, A, ρ, .dict kvs, ρ', E, e1, fun v H' P r => ?_⟩
            have r' := r.plain
            cases r' with
            | dic n hz rk =>
              rename_i a kv
              obtain ⟨od, hz⟩ := hz
              refine ⟨a, od, rfl, .inl ⟨kv, hz, k _ [.inr (a, .frz od (.dK kv))] H' P (fun r hr => ?_) (it_keysK rk.keyL)⟩⟩
              rw [List.mem_singleton.mp hr]
              exact ⟨n, hz, fun ps z => nomatch z⟩
            | dit n hz rk => rw [rk.isT] at hT; cases hT
          · rename_i hT
            split at e2
            · rename_i es ee
              cases e2
              have pk : PI X tg e (iKeysX F.K.w (rd F m [] eff)) := hK.kww ▸ pi_keysX he
              refine pk.run pins s σ H R I ⟨B, A, ρ, .dict kvs, ρ', E, e1, fun v H' P r => ?_⟩
              have r' := r.plain
              cases r' with
              | dic n hz rk =>
                have hn : isT kvs = false := by
                  cases rk with
                  | nil => rfl
                  | cons => rename_i k0 _ _ _ _ _ _; cases k0 <;> rfl
                rw [hn] at hT; cases hT
              | dit n hz rk =>
                rename_i a xs
                obtain ⟨od, hz⟩ := hz
                cases rk with
                | mk rk =>
                  cases ee
                  refine ⟨a, od, xs, rfl, hz, k _ (.inr (a, .frz od (.ext (TDict F.K.w a xs))) :: xs.map fun q => .inl (.ref q.2.1, .tuple (q.1.map kD))) H' P (fun r hr => ?_) (it_keysX rk.keyL)⟩
                  rcases List.mem_cons.mp hr with hr | hr
                  · rw [hr]
                    exact ⟨n, hz, fun ps z => nomatch z⟩
                  · obtain ⟨q, hq, rfl⟩ := List.mem_map.mp hr
                    exact (rk.keys q hq).relT
            · cases e2
      | _ => cases e2
    · cases hm
  · cases hm
end PD
set_option Elab.async false
set_option linter.all false
set_option maxRecDepth 100000
set_option maxHeartbeats 2000000
namespace PD
open PySem PySem.Spec PyProof.Rows L2 GxR GenX OwnK
def tGetX (K : KWd) (td ty tx : TE) : TE := fun σ H Q => td σ H fun x H1 => ∃ (a : Addr) (S1 : Addr → Prop) (xs1 : List (List Key × Addr × Value)) (es1 : List (D × D)), x = .ref a ∧ HT K.w H1 a xs1 ∧ RelTs K S1 H1 xs1 es1 ∧
  ty σ H1 fun y H2 => tx σ H2 fun z H3 => ∃ (S : Addr → Prop) (xs : List (List Key × Addr × Value)) (es : List (D × D)) (b : Addr) (ks : List Key) (o : Option V), y = .ref b ∧ HT K.w H3 a xs ∧ RelTs K S H3 xs es ∧ KeyAt K S H3 b ks ∧
    ((o = none ∧ atKey xs ks = none) ∨ ∃ b2 u v, atKey xs ks = some (b2, u) ∧ RelV v u ∧ o = some v) ∧ Q (o.getD z) H3
theorem pe_getX {X : Cx} {o e f : Expr} {apos cpos : Pos} {td ty tx : TE} (hu : X.A.units + 1 < cLine) (ho : PE X o td) (he : PE X e ty) (hf : PE X f tx) (m : M2 X o "get" apos e f cpos) : PE X (.Call (.Attribute o "get" apos) [e, f] [] cpos) (tGetX X.kw td ty tx) := by
  refine ⟨fun pins s σ H Q I hq => ?_⟩
  refine wpAny_Call_method m.base m.few m.line PySem.F.plainAttrs_dict PySem.F.slot_dict_get PySem.F.type_dict_get (thn (ho.run pins s σ H _ I hq) fun u s1 ⟨x, H1, I1, rx, a, S1, xs1, es1, ex, hT1, rt1, q1⟩ => ?_)
  subst ex
  cases (show u = Value.ref a from rx)
  obtain ⟨_, _, dd1⟩ := td_at I1 hT1 rt1
  have nod : ∀ c, Value.ref a = .ref c → ∃ ob, s1.heap.get? c = some ob ∧ ob.dict = none := fun c z => by
    cases z
    obtain ⟨ob, _, _, g1, g2, _⟩ := id dd1
    exact ⟨ob, g1, g2.2.1⟩
  refine ⟨dd1.typeIs, nod, ?_⟩
  rw [m.trees]
  refine Calls.callWith_builtin rfl (Calls.evalArgs_plain (Calls.spliced_cons (thn (he.run pins s1 σ H1 _ I1 q1) fun yv s2 ⟨y, H2, I2, ry, q2⟩ => Calls.spliced_cons (thn (hf.run pins s2 σ H2 _ I2 q2) fun zv s3 ⟨z, H3, I3, rz, S, xs, es, b, ks, ov, ey, hT, rt, hb, hov, q3⟩ => Calls.spliced_nil ?_))))
  subst ey
  cases (show yv = Value.ref b from ry)
  obtain ⟨hd, hl, dd⟩ := td_at I3 hT rt
  refine call_meetsIn PySem.F.slot_dict_get dd.typeIs PySem.F.entry_dict_get (PySem.F.args_dict_get_3 _ _ _) (meetsH_dict_get_default (tupleKind (L2.mixKind X.prog X.w)) a b hd zv) ⟨tupleKind_room_in1 hu, ks, xs, key_ofT I3 hb, dd, ⟨_, H3, I3.tok _, ?_, q3⟩⟩
  rcases hov with ⟨e1, e2⟩ | ⟨b2, w, v, e1, e2, e3⟩
  · rw [e1, e2]; exact rz
  · rw [e3, e1]; exact e2
def mGet2T (m1 m2 m3 : M D) : M D := fun ρ => match m1 ρ with
  | some (d, ρ1) => (match tdE d with
    | some es => (match m2 ρ1 with
      | some (kd, ρ2) => (match m3 ρ2 with
        | some (dd, ρ3) => (match keyT kd with
          | some ks => some ((dgetT es ks).getD dd, ρ3)
          | none => none)
        | none => none)
      | none => none)
    | none => none)
  | none => none
section
variable {X : Cx} {F : Frm} {pos p : Pos}
theorem x_get2T {o e f : Expr} {m1 m2 m3 : M D} {dep1 eff1 dep2 eff2 eff3 : List Nat} {apos cpos : Pos} (hu : X.A.units + 1 < cLine) (ho : PE X o (rd F m1 dep1 eff1)) (he : PE X e (rd F m2 dep2 eff2)) (hf : PE X f (rd F m3 [] eff3)) (h1 : ∀ i ∈ dep1, i ∉ eff2 := by decide) (h2 : ∀ i ∈ dep1, i ∉ eff3 := by decide) (h3 : ∀ i ∈ dep2, i ∉ eff3 := by decide)
    (hK : X.kw = F.K := by rfl) (m : M2 X o "get" apos e f cpos := by exact ⟨rfl, rfl, rfl, rfl⟩) : PE X (.Call (.Attribute o "get" apos) [e, f] [] cpos) (rd F (mGet2T m1 m2 m3) [] (eff1 ++ eff2 ++ eff3)) :=
  PE.mono (pe_getX hu ho he hf m) fun σ H Q ⟨B, A, ρ, d, ρ', E, hm, k⟩ => by
    unfold mGet2T at hm
    split at hm
    · rename_i d1 ρ1 e1
      split at hm
      · rename_i es ee
        split at hm
        · rename_i kd ρ2 e2
          split at hm
          · rename_i dd ρ3 e3
            split at hm
            · rename_i ks ek
              cases hm
              refine ⟨B, A, ρ, d1, ρ1, E, e1, fun v1 H1 P1 r1 => ?_⟩
              obtain ⟨a, xs1, rfl, hT1, rt1⟩ := (r1.rr P1.env).td ee
              refine ⟨a, _, xs1, es, rfl, (by rw [hK]; exact hT1), hK ▸ rt1, B, A, ρ1, kd, ρ2, P1.env, e2, fun v2 H2 P2 r2 => ⟨B, A, ρ2, dd, _, P2.env, e3, fun v3 H3 P3 r3 => ?_⟩⟩
              obtain ⟨a', xs, ea, hT, rt⟩ := (((r1.later P2.gro P2.lv h1).later P3.gro P3.lv h2).rr P3.env).td ee
              cases ea
              have e4 := keyT_some ek
              subst e4
              obtain ⟨b, rfl, hb⟩ := ((r2.later P3.gro P3.lv h3).rr P3.env).keyAt
              have P := (P1.trans P2).trans P3
              rcases rt.get ks with ⟨g1, g2⟩ | ⟨b2, u, v, d', g1, g2, rv, rd⟩
              · refine ⟨_, xs, es, b, ks, none, rfl, (by rw [hK]; exact hT), hK ▸ rt, hK ▸ hb, .inl ⟨rfl, g1⟩, k _ H3 P (.inl ?_)⟩
                rw [g2]; exact r3.plain
              · refine ⟨_, xs, es, b, ks, some v, rfl, (by rw [hK]; exact hT), hK ▸ rt, hK ▸ hb, .inr ⟨b2, u, v, g1, rv, rfl⟩, k _ H3 P (.inl ?_)⟩
                rw [g2]; exact rd
            · cases hm
          · cases hm
        · cases hm
      · cases hm
    · cases hm
end
def gPairs : D → Option (List D)
  | .dict kvs => if isT kvs = true then none else some (kvs.map fun q => .tuple [q.1, q.2])
  | _ => none
def mPairs (m : M D) : M (List D) := fun ρ => match m ρ with
  | some (d, ρ1) => (match gPairs d with
    | some ds => some (ds, ρ1)
    | none => none)
  | none => none
section
variable {K : KWd}
theorem RelKs.at_ {S : Addr → Prop} {H : Hp} : ∀ {kv : List (Key × V)} {ds : List (D × D)} {i : Nat} {k : Key} {v : V}, RelKs K S H kv ds → kv[i]? = some (k, v) → ∃ d, ds[i]? = some (kD k, d) ∧ RelD K S H v d
  | _, _, _, _, _, .nil, e => by simp at e
  | _, _, 0, _, _, .cons r t, e => by
    simp at e
    obtain ⟨e1, e2⟩ := e
    subst e1 e2
    exact ⟨_, rfl, r⟩
  | _, _, i + 1, _, _, .cons r t, e => by
    obtain ⟨d, h1, h2⟩ := RelKs.at_ (i := i) t (by simpa using e)
    exact ⟨d, by simpa using h1, h2⟩
end
end PD
set_option Elab.async false
set_option linter.all false
set_option maxRecDepth 100000
set_option maxHeartbeats 2000000
namespace PD
open PySem PySem.Spec PyProof.Rows L2 GxR GenX OwnK
open PySem.SeqAt PySem.W
mutual
def cmpD : D → D → Bool
  | .bool _, .bool _ => true
  | .int _, .int _ => true
  | .str _, .str _ => true
  | .tuple xs, .tuple ys => cmpL xs ys
  | _, _ => false
def cmpL : List D → List D → Bool
  | x :: xs, y :: ys => if PyData.eqv x y = true then cmpL xs ys else cmpD x y
  | [], _ => true
  | _ :: _, [] => true
end
mutual
theorem eqv_toks : ∀ x y : D, PyData.eqv x y = true → keyToks x = keyToks y
  | .none, y, h => by cases y <;> first | rfl | (simp [PyData.eqv] at h)
  | .bool a, y, h => by
    cases y with
    | bool b => simp [PyData.eqv] at h; rw [h]
    | int j => simp [PyData.eqv] at h; simp [keyToks, h]
    | _ => simp [PyData.eqv] at h
  | .int a, y, h => by
    cases y with
    | bool b => simp [PyData.eqv] at h; simp [keyToks, h]
    | int j => simp [PyData.eqv] at h; rw [h]
    | _ => simp [PyData.eqv] at h
  | .str a, y, h => by
    cases y with
    | str b => simp [PyData.eqv] at h; rw [h]
    | _ => simp [PyData.eqv] at h
  | .list xs, y, h => by
    cases y with
    | list ys => simp only [PyData.eqv] at h; simp only [keyToks]; exact eqvs_toks xs ys h
    | _ => simp [PyData.eqv] at h
  | .tuple xs, y, h => by
    cases y with
    | tuple ys => simp only [PyData.eqv] at h; simp only [keyToks]; exact eqvs_toks xs ys h
    | _ => simp [PyData.eqv] at h
  | .dict _, y, h => by cases y <;> simp [PyData.eqv] at h
theorem eqvs_toks : ∀ xs ys : List D, PyData.eqvAll xs ys = true → keyToksAll xs = keyToksAll ys
  | [], [], _ => rfl
  | [], y :: ys, h => by simp [PyData.eqvAll] at h
  | x :: xs, [], h => by simp [PyData.eqvAll] at h
  | x :: xs, y :: ys, h => by
    rw [eqv_all_cons, Bool.and_eq_true] at h
    rw [toks_all_cons, toks_all_cons, eqv_toks x y h.1, eqvs_toks xs ys h.2]
end
theorem cmpL_yes {x y : D} {xs ys : List D} (e : PyData.eqv x y = true) : cmpL (x :: xs) (y :: ys) = cmpL xs ys := by
  rw [cmpL, if_pos e]
theorem cmpL_no {x y : D} {xs ys : List D} (e : PyData.eqv x y = false) : cmpL (x :: xs) (y :: ys) = cmpD x y := by
  rw [cmpL, if_neg (by rw [e]; exact Bool.false_ne_true)]
mutual
theorem toks_cmp : ∀ x y : D, cmpD x y = true → PyData.eqv x y = false → ∀ l m, PyProof.Rows.lexLt itemOrd (keyToks x ++ l) (keyToks y ++ m) = dataLt x y
  | .bool a, y, h, e, l, m => by
    cases y with
    | bool b => exact (toks_eqv _ _ (by simp [alike])).2 e l m
    | _ => simp [cmpD] at h
  | .int a, y, h, e, l, m => by
    cases y with
    | int b => exact (toks_eqv _ _ (by simp [alike])).2 e l m
    | _ => simp [cmpD] at h
  | .str a, y, h, e, l, m => by
    cases y with
    | str b => exact (toks_eqv _ _ (by simp [alike])).2 e l m
    | _ => simp [cmpD] at h
  | .tuple xs, y, h, e, l, m => by
    cases y with
    | tuple ys =>
      simp only [cmpD] at h
      simp only [PyData.eqv] at e
      rw [dataLt_tuple]
      simp only [keyToks]
      exact toks_cmpL xs ys h e l m
    | _ => simp [cmpD] at h
  | .none, y, h, _, _, _ => by cases y <;> simp [cmpD] at h
  | .list _, y, h, _, _, _ => by cases y <;> simp [cmpD] at h
  | .dict _, y, h, _, _, _ => by cases y <;> simp [cmpD] at h
theorem toks_cmpL : ∀ xs ys : List D, cmpL xs ys = true → PyData.eqvAll xs ys = false → ∀ l m, PyProof.Rows.lexLt itemOrd (keyToksAll xs ++ l) (keyToksAll ys ++ m) = PyProof.Rows.lexLt itemOrd (keyToksAll xs) (keyToksAll ys)
  | [], [], _, e, _, _ => by simp [PyData.eqvAll] at e
  | [], y :: ys, _, _, l, m => by
    rw [toks_all_cons]
    simp only [keyToksAll, List.cons_append]
    rw [lex_diff (O := itemOrd) (by simp), lex_diff (O := itemOrd) (by simp)]
  | x :: xs, [], _, _, l, m => by
    rw [toks_all_cons]
    simp only [keyToksAll, List.cons_append]
    rw [lex_diff (O := itemOrd) (by simp), lex_diff (O := itemOrd) (by simp)]
  | x :: xs, y :: ys, h, e, l, m => by
    rw [toks_all_cons, toks_all_cons, List.cons_append, List.cons_append, lex_self (O := itemOrd), lex_self (O := itemOrd), List.append_assoc, List.append_assoc]
    rw [eqv_all_cons] at e
    cases hx : PyData.eqv x y with
    | true =>
      rw [cmpL_yes hx] at h
      rw [hx, Bool.true_and] at e
      rw [eqv_toks x y hx, lex_pre, lex_pre]
      exact toks_cmpL xs ys h e l m
    | false =>
      rw [cmpL_no hx] at h
      rw [toks_cmp x y h hx, toks_cmp x y h hx]
end
theorem lex_yes {x y : D} {xs ys : List D} (e : PyData.eqv x y = true) : PyProof.Rows.lexLt itemOrd (keyToksAll (x :: xs)) (keyToksAll (y :: ys)) = PyProof.Rows.lexLt itemOrd (keyToksAll xs) (keyToksAll ys) := by
  rw [toks_all_cons, toks_all_cons, eqv_toks x y e, lex_self (O := itemOrd), lex_pre]
theorem lex_no {x y : D} {xs ys : List D} (h : cmpD x y = true) (e : PyData.eqv x y = false) : PyProof.Rows.lexLt itemOrd (keyToksAll (x :: xs)) (keyToksAll (y :: ys)) = dataLt x y := by
  rw [toks_all_cons, toks_all_cons, lex_self (O := itemOrd), toks_cmp x y h e]
section
theorem tup_ltF (l b : Addr) (us ws : Array Value) (n n2 : Nat) (dd dd2 : Option Addr) (sl sl2 : Array (Option Value)) (e r : Nat → Bool) :
    Meets (Builtin.«tuple.__lt__» ⟨[.ref l, .ref b], []⟩)
      (fun A R s => s.heap.get? l = some { cls := .type "tuple", dict := dd, data := .seq us n, slots := sl } ∧ s.heap.get? b = some { cls := .type "tuple", dict := dd2, data := .seq ws n2, slots := sl2 } ∧
        (∀ j (h1 : j < us.size) (h2 : j < ws.size), (∀ i, i < j → e i = true) → EqAt A.in1 s us[j] ws[j] (e j)) ∧ (∀ j (h1 : j < us.size) (h2 : j < ws.size), (∀ i, i < j → e i = true) → e j = false → RcLt A.in1 s us[j] ws[j] (r j)) ∧
        R (.ok (.ret (.bool (firstLt e r (decide (us.size < ws.size)) (List.range (min us.size ws.size)))))) s) :=
  .of_wp fun prog w A R s hyp => by
    obtain ⟨hp, g, d, tk, os⟩ := s
    obtain ⟨hl, hb, he, hr, fin⟩ := hyp
    have f2 := AutoSeq1.sub_tuple_tuple
    have hz0 : (us.toList.zip ws.toList).length = min us.size ws.size := by simp
    wp_walk using wpAny_loadPart' hl, wpAny_loadPart' hb, wpAny_forIn_list _ (fun rest b s' => b.1 = none ∧ s' = ⟨hp, g, d, tk, os⟩ ∧ ∃ i, rest = (us.toList.zip ws.toList).drop i ∧ (∀ k, k < i → e k = true) ∧
      R (.ok (.ret (.bool (firstLt e r (decide (us.size < ws.size)) ((List.range (min us.size ws.size)).drop i))))) ⟨hp, g, d, tk, os⟩) _
    case turn =>
      rintro ⟨y, x⟩ rest b s' ⟨hb', rfl, i, hzz, hpre, hR⟩
      have hlt : i < (us.toList.zip ws.toList).length := Nat.lt_of_not_le fun z => by
        rw [List.drop_of_length_le z] at hzz; cases hzz
      have hm : i < min us.size ws.size := by rw [← hz0]; exact hlt
      have h1 : i < us.size := by omega
      have h2 : i < ws.size := by omega
      rw [List.drop_eq_getElem_cons hlt] at hzz
      obtain ⟨hyx, hrest⟩ := List.cons.inj hzz
      have hy : y = us[i] := by simpa using congrArg Prod.fst hyx
      have hx : x = ws[i] := by simpa using congrArg Prod.snd hyx
      subst hy hx
      have hdr : (List.range (min us.size ws.size)).drop i = i :: (List.range (min us.size ws.size)).drop (i + 1) := by
        rw [List.drop_eq_getElem_cons (by simpa using hm)]; simp
      rw [hdr] at hR
      refine wpAny_bind (he i h1 h2 hpre prog w _ _ ?_)
      cases hy : e i with
      | true =>
        rw [firstLt_yes hy] at hR
        wp_walk
        refine ⟨rfl, rfl, i + 1, hrest, fun k hk => ?_, hR⟩
        rcases Nat.lt_or_ge k i with q | q
        · exact hpre k q
        · rw [show k = i by omega]; exact hy
      | false =>
        rw [firstLt_no hy] at hR
        have hq := hr i h1 h2 hpre hy
        unfold RcLt at hq
        generalize richCompare CmpOp.Lt us[i] ws[i] = m at hq ⊢
        wp_walk
        refine hq prog w _ _ ?_
        wp_walk
        exact ⟨_, rfl, hR⟩
    case fin =>
      rintro ⟨b1, b2⟩ s' ⟨hb', rfl, i, hzz, hpre, hR⟩
      simp only at hb'
      subst hb'
      have hge : min us.size ws.size ≤ i := Nat.le_of_not_lt fun z => by
        rw [List.drop_eq_getElem_cons (by rw [hz0]; exact z)] at hzz; cases hzz
      rw [List.drop_of_length_le (by simpa using hge)] at hR
      wp_walk
      exact ⟨_, rfl, by simpa [Builtin.Tuple.tupleCompareSizes, firstLt] using hR⟩
    case h =>
      exact ⟨rfl, rfl, 0, rfl, (fun k hk => absurd hk (Nat.not_lt_zero k)), by simpa using fin⟩
end
theorem rcLt_tupF {A : Around} {s : Shared} {l b : Addr} {us ws : Array Value} {e r : Nat → Bool} (hl : s.heap.IsTuple l us) (hb : s.heap.IsTuple b ws) (hu : A.units < cLine)
    (he : ∀ j (h1 : j < us.size) (h2 : j < ws.size), (∀ i, i < j → e i = true) → EqAt A.in1 s us[j] ws[j] (e j)) (hr : ∀ j (h1 : j < us.size) (h2 : j < ws.size), (∀ i, i < j → e i = true) → e j = false → RcLt A.in1 s us[j] ws[j] (r j)) :
    RcLt A s (.ref l) (.ref b) (firstLt e r (decide (us.size < ws.size)) (List.range (min us.size ws.size))) := fun prog w E Q fin => by
  obtain ⟨⟨c1, dd, data, sl⟩, ho, hc, n, hd⟩ := id hl
  obtain ⟨⟨c2, dd2, data2, sl2⟩, ho2, hc2, n2, hd2⟩ := id hb
  cases hc; cases hd; cases hc2; cases hd2
  exact richCompare_meets_room (op := .Lt) ⟨_, ho, rfl⟩ ⟨_, ho2, rfl⟩ F.slot_tuple_lt F.entry_tuple_lt (F.args_tuple_lt_2 _ _) (tup_ltF l b us ws n n2 dd dd2 sl sl2 e r) ⟨ho, ho2, he, hr, ⟨(fun x => nomatch x), fin⟩⟩ hu
theorem first_cmp : ∀ xs ys : List D, cmpL xs ys = true → firstLt (pairEq xs ys) (fun j => dataLt (xs.getD j .none) (ys.getD j .none)) (decide (xs.length < ys.length)) (List.range (min xs.length ys.length)) = PyProof.Rows.lexLt itemOrd (keyToksAll xs) (keyToksAll ys)
  | [], [], _ => by
    rw [lex_irrefl]
    rfl
  | [], y :: ys, _ => by
    rw [toks_all_cons]
    simp only [keyToksAll]
    rw [lex_diff (O := itemOrd) (by simp)]
    rfl
  | x :: xs, [], _ => by
    rw [toks_all_cons]
    simp only [keyToksAll]
    rw [lex_diff (O := itemOrd) (by simp)]
    rfl
  | x :: xs, y :: ys, h => by
    have e1 : min (x :: xs).length (y :: ys).length = min xs.length ys.length + 1 := by simp only [List.length_cons]; omega
    have e2 : decide ((x :: xs).length < (y :: ys).length) = decide (xs.length < ys.length) := by simp only [List.length_cons, Nat.add_lt_add_iff_right]
    rw [e1, e2, List.range_succ_eq_map]
    cases hx : PyData.eqv x y with
    | true =>
      rw [cmpL_yes hx] at h
      rw [firstLt_yes (show pairEq (x :: xs) (y :: ys) 0 = true from hx), firstLt_map, lex_yes hx, ← first_cmp xs ys h]
      rfl
    | false =>
      rw [cmpL_no hx] at h
      rw [firstLt_no (show pairEq (x :: xs) (y :: ys) 0 = false from hx), lex_no h hx]
      rfl
mutual
theorem rcLt_cmp : ∀ (da db : D) (A : Around) (s : Shared) (a b : Value) (as bs : List Addr), Reads s.heap a da as → Reads s.heap b db bs → cmpD da db = true → da.canLay0 = true → db.canLay0 = true → A.units + min da.depth db.depth < cLine → RcLt A s a b (dataLt da db)
  | .bool x, db, A, s, a, b, as, bs, ra, rb, h, _, _, hu => by
    cases db with
    | bool y => exact rcLt_alike _ _ A s a b as bs ra rb (by simp [alike]) (by simp) hu
    | _ => simp [cmpD] at h
  | .int x, db, A, s, a, b, as, bs, ra, rb, h, _, _, hu => by
    cases db with
    | int y => exact rcLt_alike _ _ A s a b as bs ra rb (by simp [alike]) (by simp) hu
    | _ => simp [cmpD] at h
  | .str x, db, A, s, a, b, as, bs, ra, rb, h, _, _, hu => by
    cases db with
    | str y => exact rcLt_alike _ _ A s a b as bs ra rb (by simp [alike]) (by simp) hu
    | _ => simp [cmpD] at h
  | .tuple xs, db, A, s, a, b, as, bs, ra, rb, h, c1, c2, hu => by
    cases db with
    | tuple ys =>
      simp only [cmpD] at h
      have c1 : PyData.canLayAll0 xs = true := by simpa [PyData.canLay0] using c1
      have c2 : PyData.canLayAll0 ys = true := by simpa [PyData.canLay0] using c2
      cases ra with
      | @tuple l o us n _ _ g1 g2 g3 g4 =>
        cases rb with
        | @tuple l' o' ws n' _ _ k1 k2 k3 k4 =>
          have n1 : us.size = xs.length := by simpa using SeqAt.ReadsAll.length _ _ _ g4
          have n2 : ws.size = ys.length := by simpa using SeqAt.ReadsAll.length _ _ _ k4
          rw [dataLt_tuple, ← first_cmp xs ys h, ← n1, ← n2]
          refine rcLt_tupF ⟨_, g1, g2, _, g3⟩ ⟨_, k1, k2, _, k3⟩ (room_here hu) (fun j j1 j2 _ => ?_) fun j j1 j2 hpre hj => ?_
          · exact eqAt_readsAll xs ys A.in1 s us.toList ws.toList _ _ g4 k4 c1 c2 (room_in hu) j (by simpa using j1) (by simpa using j2)
          · exact rcLt_cmpL xs ys A.in1 s us.toList ws.toList _ _ g4 k4 h c1 c2 (room_in hu) j (by simpa using j1) (by simpa using j2) hpre hj
    | _ => simp [cmpD] at h
  | .none, db, _, _, _, _, _, _, _, _, h, _, _, _ => by cases db <;> simp [cmpD] at h
  | .list _, db, _, _, _, _, _, _, _, _, h, _, _, _ => by cases db <;> simp [cmpD] at h
  | .dict _, db, _, _, _, _, _, _, _, _, h, _, _, _ => by cases db <;> simp [cmpD] at h
theorem rcLt_cmpL : ∀ (xs ys : List D) (A : Around) (s : Shared) (vs ws : List Value) (as bs : List Addr), ReadsAll s.heap vs xs as → ReadsAll s.heap ws ys bs → cmpL xs ys = true → PyData.canLayAll0 xs = true → PyData.canLayAll0 ys = true →
    A.units + min (PyData.depthAll xs) (PyData.depthAll ys) < cLine → ∀ j (h1 : j < vs.length) (h2 : j < ws.length), (∀ i, i < j → pairEq xs ys i = true) → pairEq xs ys j = false → RcLt A s vs[j] ws[j] (dataLt (xs.getD j .none) (ys.getD j .none))
  | [], _, _, _, _, _, _, _, ra, _, _, _, _, _, j, h1, _, _, _ => by cases ra; exact absurd h1 (Nat.not_lt_zero _)
  | _ :: _, [], _, _, _, _, _, _, _, rb, _, _, _, _, j, _, h2, _, _ => by cases rb; exact absurd h2 (Nat.not_lt_zero _)
  | x :: xs, y :: ys, A, s, _, _, _, _, ra, rb, h, c1, c2, hu, j, h1, h2, hpre, hj => by
    have c1 : x.canLay0 = true ∧ PyData.canLayAll0 xs = true := by simpa [PyData.canLayAll0] using c1
    have c2 : y.canLay0 = true ∧ PyData.canLayAll0 ys = true := by simpa [PyData.canLayAll0] using c2
    cases ra with
    | cons r rs =>
      cases rb with
      | cons r' rs' =>
        cases j with
        | zero =>
          have hx : PyData.eqv x y = false := hj
          exact rcLt_cmp x y A s _ _ _ _ r r' (by rw [← cmpL_no hx]; exact h) c1.1 c2.1 (room_head hu)
        | succ j =>
          have hx : PyData.eqv x y = true := hpre 0 (Nat.succ_pos j)
          exact rcLt_cmpL xs ys A s _ _ _ _ rs rs' (by rw [← cmpL_yes hx]; exact h) c1.2 c2.2 (room_tail hu) j (Nat.lt_of_succ_lt_succ h1) (Nat.lt_of_succ_lt_succ h2) (fun i hi => hpre (i + 1) (Nat.succ_lt_succ hi)) hj
end
section
variable {prog : Program} {w : World} {A : Around} {E : Value → Shared → Prop} {s : Shared}
theorem oneLt_cmp {f : Bool} {da db : D} {a b : Value} {as bs : List Addr} {Q : Bool → Shared → Prop} (hf : f = true → ∀ xs, da ≠ .tuple xs) (ra : Reads s.heap a da as) (rb : Reads s.heap b db bs) (h : cmpD da db = true) (c1 : da.canLay0 = true) (c2 : db.canLay0 = true)
    (hu : A.units + min da.depth db.depth < cLine) (hq : Q (dataLt da db) s) : wpAny (model prog w) A (oneLt' f a b) Q E s := by
  cases f with
  | false =>
    rw [oneLt'_eq]
    simp only [Bool.false_eq_true, if_false]
    exact wpAny_bind (rcLt_cmp da db A s a b as bs ra rb h c1 c2 hu prog w E _ (wpAny_truthy_bool hq))
  | true =>
    refine oneLt_alike hf ra rb ?_ ?_ hu hq
    · cases da with
      | tuple xs => exact absurd rfl (hf rfl xs)
      | bool x => cases db <;> first | (simp [cmpD] at h; done) | simp [alike]
      | int x => cases db <;> first | (simp [cmpD] at h; done) | simp [alike]
      | str x => cases db <;> first | (simp [cmpD] at h; done) | simp [alike]
      | _ => cases db <;> simp [cmpD] at h
    · rintro rfl
      cases db <;> simp [cmpD] at h
theorem katLex_cmp {b fin : Bool} {Q : Bool → Shared → Prop} : ∀ (xs ys : List D) (i : Nat) (vs ws : List Value) (as bs : List Addr), ReadsAll s.heap vs xs as → ReadsAll s.heap ws ys bs → cmpL xs ys = true → PyData.canLayAll0 xs = true → PyData.canLayAll0 ys = true →
    A.units + min (PyData.depthAll xs) (PyData.depthAll ys) < cLine → (b = true → i = 0 → ∀ x r t, xs = x :: r → x ≠ .tuple t) → fin = decide (xs.length < ys.length) → Q (PyProof.Rows.lexLt itemOrd (keyToksAll xs) (keyToksAll ys)) s → KatLex prog w A b fin Q (vs.zip ws) i s
  | [], [], i, _, _, _, _, ra, rb, _, _, _, _, _, hf, hq => by
    cases ra
    cases rb
    rw [lex_irrefl] at hq
    exact kat_nil (by rw [hf]; exact hq)
  | [], y :: ys, i, _, _, _, _, ra, rb, _, _, _, _, _, hf, hq => by
    cases ra
    rw [toks_all_cons] at hq
    simp only [keyToksAll] at hq
    rw [lex_diff (O := itemOrd) (by simp)] at hq
    rw [List.zip_nil_left, hf]
    exact kat_nil hq
  | x :: xs, [], i, _, _, _, _, ra, rb, _, _, _, _, _, hf, hq => by
    cases rb
    rw [toks_all_cons] at hq
    simp only [keyToksAll] at hq
    rw [lex_diff (O := itemOrd) (by simp)] at hq
    rw [List.zip_nil_right, hf]
    exact kat_nil hq
  | x :: xs, y :: ys, i, _, _, _, _, ra, rb, h, c1, c2, hu, hb, hf, hq => by
    have c1 : x.canLay0 = true ∧ PyData.canLayAll0 xs = true := by simpa [PyData.canLayAll0] using c1
    have c2 : y.canLay0 = true ∧ PyData.canLayAll0 ys = true := by simpa [PyData.canLayAll0] using c2
    cases ra with
    | cons r rs =>
      cases rb with
      | cons r' rs' =>
        rw [List.zip_cons_cons]
        refine kat_cons (eqAt_reads x y A s _ _ _ _ r r' c1.1 c2.1 (room_head hu) prog w _ _ ?_)
        cases hx : PyData.eqv x y with
        | true =>
          rw [lex_yes hx] at hq
          exact kat_yes (katLex_cmp xs ys (i + 1) _ _ _ _ rs rs' (by rw [← cmpL_yes hx]; exact h) c1.2 c2.2 (room_tail hu) (fun _ z => absurd z (Nat.succ_ne_zero i)) (by rw [hf]; simp only [List.length_cons, Nat.add_lt_add_iff_right]) hq)
        | false =>
          rw [cmpL_no hx] at h
          rw [lex_no h hx] at hq
          refine kat_no (oneLt_cmp (fun z t => ?_) r r' h c1.1 c2.1 (room_head hu) hq)
          rw [Bool.and_eq_true] at z
          exact hb z.1 (by simpa using z.2) x xs t rfl
theorem kind_some {h : Heap} {ds : List D} {v : Value} {d : D} {as : List Addr} (hc : ∀ d ∈ ds, d.canLay0 = true) (hd : d ∈ ds) (r : Reads h v d as) : (dataKind h ds).keyOf v = some (keyToks d) := by
  have q : ∃ d, d ∈ ds ∧ ∃ as, Reads h v d as := ⟨d, hd, as, r⟩
  have e : (dataKind h ds).keyOf v = some (keyToks q.choose) := dif_pos q
  obtain ⟨g1, as', g2⟩ := q.choose_spec
  rw [e, SeqAt.Reads.unique _ _ _ _ _ (hc _ g1) g2 r]
def sameFirst (ds : List D) : Bool := ds.all fun d => ds.all fun d' => match d, d' with
  | .tuple (x :: _), .tuple (y :: _) => dataType x == dataType y
  | _, _ => false
def allCmp (ds : List D) : Bool := ds.all fun d => ds.all fun d' => cmpD d d'
theorem sorts_cmp {vs : List Value} {ds : List D} (e : EachIs (fun v d => ∃ as, Reads s.heap v d as) vs ds) (hal : ∀ d ∈ ds, ∀ d' ∈ ds, cmpD d d' = true) (hc : ∀ d ∈ ds, d.canLay0 = true) (ht : ∀ d ∈ ds, ∃ x r, d = .tuple (x :: r))
    (hT : ∀ x r y t, .tuple (x :: r) ∈ ds → .tuple (y :: t) ∈ ds → dataType x = dataType y) (hu : ∀ d, d ∈ ds → A.units + d.depth < cLine) : SortsAt prog w A s (dataKind s.heap ds) vs := by
  refine ⟨fun v hv => ?_, ?_⟩
  · obtain ⟨d, hd, as, r⟩ := e.left v hv
    exact ⟨_, kind_some hc hd r⟩
  · cases ds with
    | nil =>
      cases e
      exact ⟨general', fun E x y a b Q ha _ _ => (by
        obtain ⟨d, _, hd, _⟩ := dataKind_inv ha
        cases hd), fun z => absurd z (by simp)⟩
    | cons d₀ ds₀ =>
      obtain ⟨x₀, r₀, e₀⟩ := ht d₀ List.mem_cons_self
      have m0 : PyData.tuple (x₀ :: r₀) ∈ d₀ :: ds₀ := by rw [← e₀]; exact List.mem_cons_self
      refine ⟨tuples' (dataType x₀ != Value.type "tuple"), ?_, fun h2 E Q hq => ?_⟩
      · intro E x y a b Q ha hb hq
        obtain ⟨d, as, hd, ra, rfl⟩ := dataKind_inv ha
        obtain ⟨d', as', hd', rb, rfl⟩ := dataKind_inv hb
        have hdd := hal d hd d' hd'
        have hr : A.units + min d.depth d'.depth < cLine := by
          have := hu d hd
          omega
        have q1 := hc d hd
        have q2 := hc d' hd'
        obtain ⟨x1, r1, rfl⟩ := ht d hd
        obtain ⟨x2, r2, rfl⟩ := ht d' hd'
        have hq' : Q (dataLt (.tuple (x1 :: r1)) (.tuple (x2 :: r2))) s := hq
        rw [dataLt_tuple] at hq'
        simp only [cmpD] at hdd
        cases ra with
        | @tuple l o us n _ _ g1 g2 g3 g4 =>
          cases rb with
          | @tuple l' o' ws n' _ _ k1 k2 k3 k4 =>
            have n1 : us.size = (x1 :: r1).length := by simpa using SeqAt.ReadsAll.length _ _ _ g4
            have n2 : ws.size = (x2 :: r2).length := by simpa using SeqAt.ReadsAll.length _ _ _ k4
            refine kat_lt g1 g3 k1 k3 (katLex_cmp (x1 :: r1) (x2 :: r2) 0 _ _ _ _ g4 k4 hdd (by simpa [PyData.canLay0] using q1) (by simpa [PyData.canLay0] using q2) (by have q := SeqAt.room_in hr; omega) (fun hb _ x r t ex => ?_) (by rw [n1, n2]) hq')
            cases ex
            rw [← hT _ _ _ _ hd m0] at hb
            exact dataType_tuple hb t
      · obtain ⟨fs, t1, t2, t3⟩ := each_katTups e ht
        refine kat_kind (T := dataType x₀) t1 (by omega) (fun f hf => ?_) (beq_self_eq_true _) hq
        obtain ⟨x, r, as, m1, m2⟩ := t3 f hf
        rw [← hT _ _ _ _ m1 m0]
        exact looks_reads m2
theorem sorted_cmp {β : Type} {vs : List Value} {bs : List β} {enc : β → D} {R : Value → β → Prop} {l : Addr} {Q : Value → Shared → Prop} (hl : s.heap.IsList l vs.toArray) (e : EachIs R vs bs) (er : EachIs (fun v b => ∃ as, Reads s.heap v (enc b) as) vs bs)
    (hal : ∀ d ∈ bs.map enc, ∀ d' ∈ bs.map enc, cmpD d d' = true) (hc : ∀ d ∈ bs.map enc, d.canLay0 = true) (ht : ∀ d ∈ bs.map enc, ∃ x r, d = .tuple (x :: r)) (hT : ∀ x r y t, .tuple (x :: r) ∈ bs.map enc → .tuple (y :: t) ∈ bs.map enc → dataType x = dataType y) (hL : bs.length ≤ sizeLine)
    (hu : ∀ b, b ∈ bs → A.units + 2 + (enc b).depth < cLine) (fin : ∀ out, out.length = bs.length → EachIs R out (bs.mergeSort (dataLe false enc)) → Q (.ref (s.heap.objs.size + 1)) { s with heap := sortedAll s.heap vs (List.toArray out) }) :
    wpAny (model prog w) A (call (.builtin "sorted") [.ref l]) Q E s := by
  have er2 : EachIs (fun v b => ∃ as, Reads (sortingHeap (copyHeap s.heap vs) (s.heap.objs.size + 1) vs) v (enc b) as) vs bs := er.mono fun _ _ ⟨as, r⟩ => ⟨as, PyProof.Rows.Reads.keeps (fun _ _ => sorting_copy_old) r⟩
  have er3 := each_map (R := fun v d => ∃ as, Reads (sortingHeap (copyHeap s.heap vs) (s.heap.objs.size + 1) vs) v d as) enc er2
  have hk : EachIs (fun v d => (dataKind (sortingHeap (copyHeap s.heap vs) (s.heap.objs.size + 1) vs) (bs.map enc)).keyOf v = some (keyToks d)) vs (bs.map enc) := (each_mem er3).mono fun _ _ ⟨⟨_, r⟩, hd⟩ => kind_some hc hd r
  refine sorted_vals hl (sorts_cmp (s := { s with heap := sortingHeap (copyHeap s.heap vs) (s.heap.objs.size + 1) vs }) er3 hal hc ht hT (bound_map hu)) (by rw [e.length]; exact hL) (fin _ (by rw [sortVals_length false rfl]; exact e.length) ?_)
  exact sortVals_each (κ := dataKind _ (bs.map enc)) (fun b => keyToks (enc b)) e (each_of_map enc hk)
end
def okSC (ds : List D) : Bool := allCmp ds && sameFirst ds && ds.all fun d => tupNe d && noD d && d.canLay0 && decide (d.depth ≤ 60)
def gSortedC : List D → Option D
  | [.list ds] => if okSC ds = true then some (.list (sortD ds)) else none
  | _ => none
section
variable {X : Cx} {K : KWd}
theorem c_sortedC (hu : X.A.units + 65 < cLine) (hK : X.kw = K := by rfl) : CallR X (.builtin "sorted") (rcall K gSortedC) := by
  subst hK
  intro pins s σ H xs us Q I r ⟨S, ds, d, hr, e, occ, k⟩
  unfold gSortedC at e
  split at e
  · rename_i l
    split at e
    · rename_i hok
      cases e
      obtain ⟨v, rfl, r1⟩ := prs1 hr
      obtain ⟨a, ys, rfl, h1, q1⟩ := r1.list
      obtain ⟨its, rv, hl, hz⟩ := I.list h1
      rw [Vals.ref1 r]
      unfold okSC at hok
      simp only [Bool.and_eq_true] at hok
      obtain ⟨⟨hal, hsf⟩, hall⟩ := hok
      have hall : ∀ d ∈ l, tupNe d = true ∧ noD d = true ∧ d.canLay0 = true ∧ d.depth ≤ 60 := fun d hd => by
        have := List.all_eq_true.mp hall d hd
        simp only [Bool.and_eq_true, decide_eq_true_eq] at this
        exact ⟨this.1.1.1, this.1.1.2, this.1.2, this.2⟩
      have hl2 : ys.length = l.length := q1.length
      have ezip : (ys.zip l).map (fun b : V × D => b.2) = l := zip_snd hl2
      have e1 := each_rel rv q1
      have hmem : ∀ b ∈ ys.zip l, b.2 ∈ l := fun b hb => (List.of_mem_zip (a := b.1) (b := b.2) hb).2
      have er : PySem.W.EachIs (fun u (b : V × D) => ∃ as, Reads s.heap u b.2 as) its (ys.zip l) := each_reads I e1 fun b hb => (hall b.2 (hmem b hb)).2.1
      refine sorted_cmp (enc := fun b : V × D => b.2) hl.isList e1 er ?_ ?_ ?_ ?_ ?_ ?_ fun out hlo ho => ?_
      · rw [ezip]
        exact fun d hd d' hd' => List.all_eq_true.mp (List.all_eq_true.mp hal d hd) d' hd'
      · rw [ezip]; exact fun d hd => (hall d hd).2.2.1
      · rw [ezip]; exact fun d hd => tupNe_of (hall d hd).1
      · rw [ezip]
        intro x r y t m1 m2
        have := List.all_eq_true.mp (List.all_eq_true.mp hsf _ m1) _ m2
        exact eq_of_beq this
      · rw [List.length_zip, hl2, Nat.min_self, ← hl2]; exact hz
      · intro b hb
        have := (hall b.2 (hmem b hb)).2.2.2
        omega
      · obtain ⟨v1, v2⟩ := each_vals (R := fun _ => True) ho
        obtain ⟨ep, he'⟩ := PyProof.Rows.sortedAll_at s.heap its out.toArray
        have hn := I.hok.fresh (Nat.le_succ s.heap.objs.size)
        have em : ((ys.zip l).mergeSort (PySem.W.dataLe false fun b : V × D => b.2)).map (·.2) = sortD l := by
          unfold sortD
          have h := List.map_mergeSort (r := PySem.W.dataLe false fun b : V × D => b.2) (s := PySem.W.dataLe false id) (f := fun b : V × D => b.2) (l := ys.zip l) fun a _ b _ => rfl
          rw [ezip] at h
          exact h
        rw [em] at v2
        have hlen : (((ys.zip l).mergeSort (PySem.W.dataLe false fun b : V × D => b.2)).map (·.1)).length ≤ sizeLine := by
          rw [List.length_map, List.length_mergeSort, List.length_zip, hl2, Nat.min_self, ← hl2]; exact hz
        exact ⟨.ref _, upd H (s.heap.objs.size + 1) (.lst (((ys.zip l).mergeSort (PySem.W.dataLe false fun b : V × D => b.2)).map (·.1))), I.laid (t' := s.toks) (fun _ _ => PyProof.Rows.sortedAll_old) (Nat.le_succ _) ⟨hlen, out, ep, v1, he'⟩, rfl, k _ _ (Ext.new hn) (.lst (fun z => occ _ z hn) (.inl upd_same) (v2.ext (Ext.new hn)))⟩
    · cases e
  · cases e
def gSorted4 (ds : List D) : Option D := match gSorted2 ds with
  | some d => some d
  | none => gSortedC ds
theorem c_sorted4 (hcalm : X.calm = true) (hu : X.A.units + 65 < cLine) (hK : X.kw = K := by rfl) : CallR X (.builtin "sorted") (rcall K gSorted4) := by
  intro pins s σ H xs us Q I r ⟨S, ds, d, hr, e, occ, k⟩
  unfold gSorted4 at e
  split at e
  · rename_i d' e'
    cases e
    exact c_sorted2 hcalm hK pins s σ H xs us Q I r ⟨S, ds, _, hr, e', occ, k⟩
  · exact c_sortedC hu hK pins s σ H xs us Q I r ⟨S, ds, d, hr, e, occ, k⟩
end
end PD
set_option Elab.async false
set_option linter.all false
set_option maxRecDepth 100000
set_option maxHeartbeats 2000000
namespace PD
open PySem PySem.Spec PyProof.Rows L2 GxR GenX OwnK
section
variable {X : Cx} {pins : List (Addr × Obj)} {σ : L2.St} {H : Hp} {s : Shared}
end
section
variable {prog : Program} {w : World} {A : Around} {s : Shared}
end
section
variable {X : Cx} {pins : List (Addr × Obj)} {σ : L2.St} {H : Hp} {s : Shared}
end
section
variable {X : Cx} {P : Addr} {i : Nat} {te : TE}
end
section
variable {X : Cx} {F : Frm} {P : Addr}
end
end PD
set_option Elab.async false
set_option linter.all false
set_option maxRecDepth 100000
set_option maxHeartbeats 2000000
namespace PD
open PySem PySem.Spec PyProof.Rows L2 GxR GenX OwnK PpSet
def SetIO (w : World) (D : Addr) (S : Int → Bool) (n : Nat) : HO := .ext fun h => SetR w h D S n
section
variable {X : Cx}
end
section
variable {X : Cx}
end
theorem SetR.noCode {w : World} {D c : Addr} {S : Int → Bool} {n : Nat} {q : Str} (z : SetIO w D S n = LamX.CodeO c q) : False := by
  unfold SetIO LamX.CodeO at z
  obtain ⟨o, es, ep, t, h1, _, h2, _⟩ := (congrFun (HO.ext.inj z) (codeHeap c q)).mpr ⟨_, _, _, codeHeap_at c q, rfl, rfl⟩
  obtain ⟨vs, hv⟩ := codeHeap_all c q D o h1
  rw [hv] at h2
  cases h2
section
variable {X : Cx} {F : Frm} {tg : Expr} {pos p : Pos}
end
def gVals : D → Option (List D)
  | .dict kvs => if isT kvs = true then none else some (kvs.map (·.2))
  | _ => none
def mVals (m : M D) : M (List D) := fun ρ => match m ρ with
  | some (d, ρ1) => (match gVals d with
    | some ds => some (ds, ρ1)
    | none => none)
  | none => none
end PD
set_option Elab.async false
set_option linter.all false
set_option maxRecDepth 100000
set_option maxHeartbeats 2000000
namespace PD
open PySem PySem.Spec PyProof.Rows L2 GxR GenX OwnK
section
variable {prog : Program} {w : World} {A : Around} {E : Value → Shared → Prop} {s : Shared}
abbrev bareSet (w : World) : Obj := { cls := .type "set", dict := none, data := .set #[] 0 (.fresh 0 0 (!w.params.followText "set-order")) }
set_option maxHeartbeats 4000000 in
theorem call_setL {l : Addr} {its : Array Value} (ns : List Int) {Q : Value → Shared → Prop} (calm : A.handled = none) (isl : s.heap.IsList l its) (hin : IntsAre its.toList ns) (few : ns.length + 1 < scanBound)
    (fin : ∀ (g : Heap) (tk c : Nat), SetR w g s.heap.objs.size (fun j => decide (j ∈ ns)) c → c ≤ ns.length → (∀ b o, s.heap.get? b = some o → g.get? b = some o) → Q (.ref s.heap.objs.size) { s with heap := g, toks := tk }) :
    wpAny (model prog w) A (call (.type "set") [.ref l]) Q E s := by
  have size : its.size = ns.length := (Array.length_toList (xs := its)).symm.trans (IntsAre.length hin)
  obtain ⟨mc, mt, mro⟩ := F.called_set.mro
  have made := F.called_set.made
  have subs := F.called_set.sub
  refine wpAny_call (codeAny_of_tree ?_)
  show wpAny _ _ (callAny (.type "set") _) _ _ _
  refine wpAny_pure ⟨Code.quiet_builtin _ (by decide +kernel), codeAny_builtin F.entry_type_call ?_⟩
  rw [Around.under_plain (weight_type_call_type "set" [.ref l] []) rfl]
  have a1 := F.called_set.notType
  have a2 := F.called_set.canCreate
  have a3 := F.typeCall_set_1 (.ref l)
  repeat (any_goals (first | assumption | wp_step))
  refine codeAny_mono (code_set_led1 (.ref l) (E := E) (Q₁ := fun ob s1 => ob = .ref s.heap.objs.size ∧ s1 = { s with heap := s.heap.push (bareSet w) }) ⟨rfl, rfl⟩) fun res s1 h1 => ?_
  match res, h1 with
  | .error _, h1 => exact h1
  | .ok (.ret ob), h1 =>
    obtain ⟨rfl, rfl⟩ := h1
    have there : (s.heap.push (bareSet w)).get? s.heap.objs.size = some (bareSet w) := Heap.get?_push_size _ rfl
    have typ : Shared.TypeIs { s with heap := s.heap.push (bareSet w) } (.ref s.heap.objs.size) "set" := ⟨_, there, rfl⟩
    have b1 := F.called_set.init.lookup
    have b2 := F.called_set.init.bind (.ref s.heap.objs.size)
    repeat (any_goals (first | assumption | wp_step))
    refine codeAny_mono (codeAny_call_builtin (R := wants (fun r s2 => r = .none ∧ ∃ g tk c, s2 = { s with heap := g, toks := tk } ∧ SetR w g s.heap.objs.size (fun j => decide (j ∈ ns)) c ∧ c ≤ ns.length ∧ ∀ b o, s.heap.get? b = some o → g.get? b = some o) E) F.called_set.init.plain F.entry_set_init (check_set_init_1 typ ?_)) fun res2 s2 h2 => ?_
    · obtain ⟨⟨c0, d0, data0, slots0⟩, at0, cls0, n0, dat0⟩ := isl
      simp only at cls0 dat0
      subst cls0; subst dat0
      have at1 : (s.heap.push (bareSet w)).get? l = some { cls := .type "list", dict := d0, data := .seq its n0, slots := slots0 } := Heap.get?_push_of_some _ at0
      have c1 := F.sub_list_set
      have c2 := F.sub_list_frozenset
      have c3 : (Value.type "list" == Value.type "dict") = false := by decide
      have isl1 : (s.heap.push (bareSet w)).IsList l its := ⟨_, at1, rfl, n0, rfl⟩
      unfold Builtin.«set.__init__» noKeywords Builtin.Frozenset.updateFrom
      generalize hiter : pyIter = ITER
      wp_walk
      subst hiter
      refine wpAny_pyIter_list isl1 ?_
      refine wpAny_bind (wpAny_runValue ?_)
      have small : l < s.heap.objs.size := Heap.lt_size at0
      have calm3 : A.in1.in1.in1.handled = none := calm
      have size1 : (s.heap.push (bareSet w)).objs.size = s.heap.objs.size + 1 := Heap.size_push ..
      have other : l ≠ (s.heap.push (bareSet w)).objs.size := by rw [size1]; exact Nat.ne_of_lt (Nat.lt_succ_of_lt small)
      have notin : s.heap.objs.size ∉ [(s.heap.push (bareSet w)).objs.size, l] := by
        rw [size1]
        intro z
        rcases List.mem_cons.mp z with z | z
        · exact Nat.ne_of_lt (Nat.lt_succ_self _) z
        · exact Nat.ne_of_gt small (List.mem_singleton.mp z)
      have vals : ∀ (i : Nat) (v : Value), its[i]? = some v → ∃ k t, ns[i]? = some k ∧ v = .int k t := fun i v hv => by
        have lt : i < ns.length := size ▸ (Array.getElem?_eq_some_iff.mp hv).1
        obtain ⟨t, e⟩ := PyProof.Rows.IntsAre.int_at hin i v ((Array.getElem?_toList ..).trans hv)
        exact ⟨ns[i], t, List.getElem?_eq_getElem lt, by rw [e, List.getD_eq_getElem?_getD, List.getElem?_eq_getElem lt] <;> rfl⟩
      refine set_update_ints ((Walks.list calm3 _ l other its).toS) s.heap.objs.size notin ns size few vals (its.size - 0) 0 _ (by omega) (Nat.zero_le _) ⟨⟨_, Heap.get?_push_size _ rfl, rfl, rfl⟩, isl1.push _⟩ ⟨0, Nat.le_refl 0, setR_new_at (Heap.get?_push_of_some _ there)⟩ fun s' c moved le R => ?_
      obtain ⟨g, gens, dr, tk, os⟩ := s'
      cases (show gens = s.gens from moved.gens)
      cases (show dr = s.drawn from moved.drawn)
      cases (show os = s.os from moved.os)
      refine wpAny_pure ?_
      show wpAny _ _ (ret Value.none) _ _ _
      refine wpAny_pure ⟨rfl, g, tk, c, rfl, R, size ▸ le, fun b o e => ?_⟩
      have lt := Heap.lt_size e
      refine moved.heap b o (fun z => ?_) (Heap.get?_push_of_some _ (Heap.get?_push_of_some _ e))
      rcases List.mem_cons.mp z with z | z
      · exact Nat.ne_of_lt lt z
      · have z := List.mem_singleton.mp z
        rw [size1] at z
        exact Nat.ne_of_lt (Nat.lt_succ_of_lt lt) z
    · match res2, h2 with
      | .error _, h2 => exact h2
      | .ok (.ret r), h2 =>
        obtain ⟨rfl, g, tk, c, rfl, R, le, kp⟩ := h2
        repeat (any_goals (first | assumption | wp_step))
        exact fin _ _ _ R le kp
end
end PD
set_option Elab.async false
set_option linter.all false
set_option maxRecDepth 100000
set_option maxHeartbeats 2000000
namespace PD
open PySem PySem.Spec PyProof.Rows L2 GxR GenX OwnK
def insI (z : Int) : List Int → List Int
  | [] => [z]
  | y :: r => if z < y then z :: y :: r else if z = y then y :: r else y :: insI z r
def dedI : List Int → List Int
  | [] => []
  | z :: r => insI z (dedI r)
theorem insI_mem {z w : Int} : ∀ {l : List Int}, w ∈ insI z l ↔ w = z ∨ w ∈ l
  | [] => by simp [insI]
  | y :: r => by
    unfold insI
    split
    · simp
    · split
      · rename_i h
        subst h
        simp
      · rw [List.mem_cons, insI_mem, List.mem_cons]
        constructor
        · rintro (h | h | h)
          · exact .inr (.inl h)
          · exact .inl h
          · exact .inr (.inr h)
        · rintro (h | h | h)
          · exact .inr (.inl h)
          · exact .inl h
          · exact .inr (.inr h)
theorem insI_rise {z : Int} : ∀ {l : List Int}, l.Pairwise (· < ·) → (insI z l).Pairwise (· < ·)
  | [], _ => by simp [insI]
  | y :: r, h => by
    obtain ⟨h1, h2⟩ := List.pairwise_cons.mp h
    unfold insI
    split
    · rename_i hz
      refine List.pairwise_cons.mpr ⟨fun w hw => ?_, h⟩
      rcases List.mem_cons.mp hw with e | e
      · rw [e]; exact hz
      · have := h1 w e
        omega
    · split
      · exact h
      · refine List.pairwise_cons.mpr ⟨fun w hw => ?_, insI_rise h2⟩
        rcases insI_mem.mp hw with e | e
        · rw [e]; omega
        · exact h1 w e
theorem rise_eq : ∀ {a b : List Int}, a.Pairwise (· < ·) → b.Pairwise (· < ·) → (∀ z, z ∈ a ↔ z ∈ b) → a = b
  | [], [], _, _, _ => rfl
  | [], y :: b, _, _, h => absurd ((h y).mpr List.mem_cons_self) (by simp)
  | x :: a, [], _, _, h => absurd ((h x).mp List.mem_cons_self) (by simp)
  | x :: a, y :: b, ha, hb, h => by
    obtain ⟨a1, a2⟩ := List.pairwise_cons.mp ha
    obtain ⟨b1, b2⟩ := List.pairwise_cons.mp hb
    have e : x = y := by
      rcases List.mem_cons.mp ((h x).mp List.mem_cons_self) with z | z
      · exact z
      · rcases List.mem_cons.mp ((h y).mpr List.mem_cons_self) with u | u
        · exact u.symm
        · have := a1 y u
          have := b1 x z
          omega
    subst e
    rw [rise_eq a2 b2 fun z => ?_]
    constructor
    · intro hz
      rcases List.mem_cons.mp ((h z).mp (List.mem_cons_of_mem _ hz)) with u | u
      · have := a1 z hz
        omega
      · exact u
    · intro hz
      rcases List.mem_cons.mp ((h z).mpr (List.mem_cons_of_mem _ hz)) with u | u
      · have := b1 z hz
        omega
      · exact u
theorem dedI_mem {z : Int} : ∀ {ns : List Int}, z ∈ dedI ns ↔ z ∈ ns
  | [] => by simp [dedI]
  | n :: r => by rw [dedI, insI_mem, dedI_mem, List.mem_cons]
theorem dedI_rise : ∀ ns : List Int, (dedI ns).Pairwise (· < ·)
  | [] => .nil
  | n :: r => insI_rise (dedI_rise r)
def gSetSort : D → Option D
  | .list ds => if ds.length < 4000 then (gLe.allInts ds).bind fun ns => if (dedI ns).length < 64 then some (.list ((dedI ns).map .int)) else none else none
  | _ => none
section
variable {X : Cx} {F : Frm} {pos p : Pos}
theorem pe_setSort {a : Expr} {ta : TE} {p p2 q pos : Pos} (hc : X.calm = true) (hg : Gl X "sorted") (hm : X.mg "sorted" = none) (hg2 : Gl X "set") (hm2 : X.mg "set" = none) (ha : PE X a ta)
    (na : starEach [a] X.env = (false, eval a X.env) :: starEach [] X.env := by rfl) : PE X (.Call (.Name "sorted" p) [.Call (.Name "set" p2) [a] [] q] [] pos) (fun σ H Q => ta σ H fun x H1 => ∃ (l : Addr) (ns : List Int), x = .ref l ∧ SqL X.K H1 l (ns.map V.int) ∧ (ns.length < 4000 ∧ (dedI ns).length < 64) ∧ ∀ g : Addr, H1 g = none → Q (.ref g) (upd H1 g (.lst ((dedI ns).map V.int)))) := by
  refine ⟨fun pins s σ H Q I h => ?_⟩
  refine Call_ (ld_blt I hg hm (show bootBuiltins "sorted" = some (.builtin "sorted") by decide +kernel) ?_)
  refine PyProof.Rows.callWith_builtin1 (PyProof.Rows.args_cons ?_ rfl) rfl rfl
  refine Call_ (ld_blt I hg2 hm2 boot_set ?_)
  refine PyProof.Rows.callWith_type1 (PyProof.Rows.args_cons (thn (ha.run pins s σ H _ I h) fun v s1 ⟨x, H1, I1, r1, q1⟩ => PyProof.Rows.args_nil ?_) na) na rfl
  obtain ⟨l, ns, rfl, hq, h1, q1⟩ := q1
  cases r1
  obtain ⟨its, r, pl, hz⟩ := I1.list hq
  refine call_setL ns (I1.ok.hd hc) pl.isList (by simpa using ints_of_vals r) (by unfold scanBound; omega) fun g tk c R le kp => PyProof.Rows.args_nil ?_
  have I2 : Inv X pins σ H1 { s1 with heap := g, toks := tk } := I1.kept kp
  have hc64 : c < 64 := by
    obtain ⟨o, es, ep, t, ho, hex, hd, ge, nd, hm, hb, hf, hn, _⟩ := id R
    have hp : (es.toList.map keyOf).Perm (dedI ns) := (List.perm_ext_iff_of_nodup nd ((dedI_rise ns).imp fun h => Int.ne_of_lt h)).mpr fun z => by
      rw [dedI_mem, ← hm z]; simp
    have := hp.length_eq
    rw [List.length_map, Array.length_toList] at this
    omega
  refine sorted_set R (I1.ok.hd hc) (by omega) fun s' u out c' L k2 gens os new at_ hint rise mem len => ?_
  have e : L = dedI ns := rise_eq rise (dedI_rise ns) fun z => by rw [mem z, dedI_mem]; simp
  subst e
  have fresh : H1 u = none := I2.hok.fresh new
  have ok : ObjOk X.prog X.w (upd H1 u (.lst ((dedI ns).map V.int))) s'.heap u (.lst ((dedI ns).map V.int)) := by
    refine ⟨?_, out.toList, c', ?_, by rw [Array.toArray_toList]; exact at_⟩
    · rw [List.length_map, len, sizeLine_eq]; omega
    · exact vals_of_ints hint
  exact ⟨.ref u, _, I2.call' (ch := []) os (Un.laid k2 new fresh) (I2.hok.laid k2 new ok) (by rw [gens]; exact I2.bare) (fun _ z => nomatch z), rfl, q1 u fresh⟩
theorem rel_intsL {K : KWd} {S : Addr → Prop} {H : Hp} : ∀ l : List Int, RelDs K S H (l.map V.int) (l.map PyData.int)
  | [] => .nil
  | j :: l => .cons (.int j) (rel_intsL l)
theorem x_setSort {a : Expr} {m : M D} {dep eff : List Nat} {p p2 q pos : Pos} (hc : X.calm = true) (hg : Gl X "sorted") (hm : X.mg "sorted" = none) (hg2 : Gl X "set") (hm2 : X.mg "set" = none) (ha : PE X a (rd F m dep eff)) (hK : X.kw = F.K := by rfl)
    (na : starEach [a] X.env = (false, eval a X.env) :: starEach [] X.env := by rfl) : PE X (.Call (.Name "sorted" p) [.Call (.Name "set" p2) [a] [] q] [] pos) (rdN F (mUn gSetSort m) eff) :=
  PE.mono (pe_setSort hc hg hm hg2 hm2 ha na) fun σ H Q ⟨B, A, ρ, d, ρ1, E, hm, k⟩ => by
    obtain ⟨d1, e1, e2⟩ := mUn_some hm
    unfold gSetSort at e2
    split at e2
    · rename_i ds
      split at e2
      · rename_i hz
        rw [Option.bind_eq_some_iff] at e2
        obtain ⟨ns, e3, e2⟩ := e2
        split at e2
        rotate_left
        · cases e2
        rename_i h64
        cases e2
        refine ⟨B, A, ρ, _, ρ1, E, e1, fun v H1 P r => ?_⟩
        obtain ⟨a, xs, rfl, h1, q1⟩ := (r.rr P.env).list
        have ex := allInts_rel e3 q1
        subst ex
        refine ⟨a, ns, rfl, hK.kwK ▸ h1, ?_, fun g hgn => rdN_lay P k hgn (Ext.new hgn) ⟨_, upd_same, rel_intsL _⟩⟩
        have := q1.length
        rw [List.length_map] at this
        exact ⟨by omega, h64⟩
      · cases e2
    · cases e2
end
def mPar0 (i j : Nat) : MS := fun ρ => if i < ρ.length ∧ j < ρ.length then some (.nx ((ρ.set i (some (true, .dict []))).set j (some (true, .dict [])))) else none
section
variable {X : Cx} {F : Frm} {pos : Pos}
end
section
variable {X : Cx} {F : Frm} {pos p : Pos}
end
end PD
set_option Elab.async false
set_option linter.all false
set_option maxRecDepth 100000
set_option maxHeartbeats 2000000
namespace PD
open PySem PySem.Spec PyProof.Rows L2 GxR GenX OwnK
section
variable {F : Frm} {B : List Addr} {A : Nat → Addr} {σ : L2.St} {H : Hp} {ρ : Rho}
theorem Ev.swap {p q : Addr} (E : Ev F (p :: q :: B) A σ H ρ) : Ev F (q :: p :: B) A σ H ρ := by
  have hm : ∀ b, b ∈ q :: p :: B ↔ b ∈ p :: q :: B := fun b => by simp only [List.mem_cons]; constructor <;> (rintro (h | h | h) <;> simp [h])
  have hS : ∀ a, Av F (q :: p :: B) A ρ a → Av F (p :: q :: B) A ρ a := fun a h => by
    rcases h with h | h | h
    · exact .inl h
    · exact .inr (.inl ((hm a).mp h))
    · exact .inr (.inr h)
  have g : ∀ {C : Addr → Prop}, Gro C H H := Gro.refl H
  exact ⟨E.len, fun i d e => let ⟨v, h1, h2⟩ := E.plain i d e; ⟨v, h1, h2.mono (C := fun _ => False) g hS fun _ z => z.elim⟩, fun i d e => let ⟨h1, h2⟩ := E.own i d e; ⟨h1, h2.mono (C := fun _ => False) g hS (fun _ z => z.elim) fun _ _ => id⟩, E.inj,
    fun i d a e hpt hi => let ⟨h1, h2, h3⟩ := E.nS i d a e hpt hi; ⟨h1, fun z => h2 ((hm a).mp z), h3⟩, fun i hi => let ⟨d, h1, h2, h3, h4⟩ := E.ios i hi; ⟨d, h1, h2, h3, fun a hpt => ⟨(h4 a hpt).1, fun z => (h4 a hpt).2 ((hm a).mp z)⟩⟩, E.few, E.occ, fun b hb => E.occB b ((hm b).mp hb), E.chg, E.tabs, fun r hr => (E.roots r hr).mono (C := fun _ => False) g hS fun _ z => z.elim⟩
end
def mLcO (i : Nat) (g : D → Rho → Option Rho) (mt : M Bool) (me : M D) (vs : List Nat) : M D := fun ρ => match ρ[i]? with
  | some (some (true, .list ds)) => (match lcL g mt me vs ds [] (wipeR (ρ.set i none) vs) with
    | some (acc, ρ2) => some (.list acc, (wipeR ρ2 vs).set i (some (true, .list ds)))
    | none => none)
  | _ => none
section
variable {X : Cx} {F : Frm} {tg : Expr} {pos : Pos}
end
end PD
set_option Elab.async false
set_option linter.all false
set_option maxRecDepth 100000
set_option maxHeartbeats 2000000
namespace PD
open PySem PySem.Spec PySem.Calls PyProof.Rows L2 GxR GenX OwnK
open PySem.SeqAt PySem.W
section
variable {prog : Program} {w : World} {A : Around} {E : Value → Shared → Prop} {s : Shared}
theorem collect_tup {l : Addr} {vs : List Value} {Q : List Value → Shared → Prop} (hl : IsTup s.heap l vs.toArray)
    (h : Q vs { s with heap := (s.heap.push (seqObj "list" #[] 0)).update s.heap.objs.size (Obj.mapSeq (· ++ vs.toArray)) }) (hsz : vs.length ≤ sizeLine) :
    wpAny (model prog w) A (collect (.ref l)) Q E s := by
  obtain ⟨o, ho, hc, n, hd⟩ := id hl
  unfold collect
  refine wpAny_bind (wpAny_runValue (codeAny_builtin entry_proto_collect' ?_))
  show wpAny _ _ (do again (.builtin "list.__iadd__" ⟨[← newList [], .ref l], []⟩)) _ _ s
  refine wpAny_bind (wpAny_newList (wpAny_pure ⟨Code.quiet_builtin _ (by decide +kernel), codeAny_builtin entry_list_iadd' ?_⟩))
  show wpAny _ _ (Builtin.List.listExtendWith (.ref s.heap.objs.size) (.ref l) (.ref s.heap.objs.size)) _ _ { s with heap := s.heap.push (seqObj "list" #[] 0) }
  unfold Builtin.List.listExtendWith
  have ho' : (s.heap.push (seqObj "list" #[] 0)).get? l = some o := Heap.get?_push_of_some _ ho
  refine wpAny_bind (wpAny_typeOf (T := "tuple") ⟨o, ho', hc⟩ ?_)
  have ht : (Value.type "tuple" == Value.type "tuple") = true := by rfl
  rw [if_pos (by rw [ht]; simp)]
  refine wpAny_bind (listItems_at ho' hd ?_)
  refine wpAny_bind (listItems_at (xs := #[]) (n := 0) (Heap.get?_push_size _ rfl) rfl ?_)
  rw [if_neg (by simp)]
  refine wpAny_bind (listUpdate_at (xs := #[]) (n := 0) (Heap.get?_push_size _ rfl) rfl ?_ (Nat.zero_le _) (by show (#[] ++ vs.toArray).size ≤ sizeLine + 1; simp only [Array.size_append, List.size_toArray, List.length_nil]; omega))
  refine wpAny_pure ?_
  show wpAny (model prog w) A (do
      let o ← load s.heap.objs.size
      match o.data with
      | .seq xs _ => pure xs.toList
      | _ => unsupported "internal:collect") Q E { s with heap := (s.heap.push (seqObj "list" #[] 0)).update s.heap.objs.size (Obj.mapSeq (· ++ vs.toArray)) }
  refine wpAny_bind (wpAny_load (get?_update_seq (Heap.get?_push_size _ rfl) _) ?_)
  show wpAny _ _ (pure ((#[] : Array Value) ++ vs.toArray).toList) Q E _
  rw [show ((#[] : Array Value) ++ vs.toArray).toList = vs by simp]
  exact wpAny_pure h
theorem sorted_of_sortT {l : Addr} {vs : List Value} {kw : List (Str × Value)} {Q : Value → Shared → Prop} (hl : IsTup s.heap l vs.toArray) (hL : vs.length ≤ sizeLine) (ha1 : argsOk "sorted" ⟨[.ref l], kw⟩) (ha2 : ∀ x, argsOk "list.sort" ⟨[.ref x], kw⟩)
    (body : ∀ E' : Value → Shared → Prop, wpAny (model prog w) A.in1.in1 (Builtin.«list.sort» ⟨[.ref (s.heap.objs.size + 1)], kw⟩) (fun f s' => f = .done (.ret .none) ∧ Q (.ref (s.heap.objs.size + 1)) s') E' { s with heap := copyHeap s.heap vs }) :
    wpAny (model prog w) A (call (.builtin "sorted") [.ref l] kw) Q E s := by
  refine call_function_entry_kw kind_sorted plain_sorted entry_sorted ha1 ?_
  unfold Builtin.«sorted»
  refine wpAny_bind (m := checkCount "sorted" 1 1 _) (wpAny_pure ?_)
  refine wpAny_bind (collect_tup hl ?_ hL)
  refine wpAny_bind (wpAny_newList ?_ hL)
  have hsz : ((s.heap.push (seqObj "list" #[] 0)).update s.heap.objs.size (Obj.mapSeq (· ++ vs.toArray))).objs.size = s.heap.objs.size + 1 := by
    rw [Heap.size_update, size_push']
  show wpAny _ _ _ _ _ { s with heap := copyHeap s.heap vs }
  rw [hsz]
  refine wpAny_bind (wpAny_holding (wpAny_call_entry_kw slot_list_sort ⟨_, copyHeap_at s.heap vs, rfl⟩ entry_list_sort ?body (ha2 _)))
  case body =>
    show wpAny (model prog w) A.in1.in1 (Builtin.«list.sort» ⟨[.ref (s.heap.objs.size + 1)], kw⟩) _ _ _
    refine wpAny_mono (body _) (fun f s' hf => ?_) fun _ _ e => e
    obtain ⟨rfl, hq⟩ := hf
    exact ⟨_, rfl, wpAny_pure ⟨_, rfl, hq⟩⟩
theorem sorted_valsT {κ : PyProof.Rows.KeyKind} {l : Addr} {vs : List Value} {Q : Value → Shared → Prop} (hl : IsTup s.heap l vs.toArray) (S : SortsAt prog w A.in1.in1 { s with heap := sortingHeap (copyHeap s.heap vs) (s.heap.objs.size + 1) vs } κ vs) (hL : vs.length ≤ sizeLine)
    (h : Q (.ref (s.heap.objs.size + 1)) { s with heap := sortedAll s.heap vs (sortVals κ false vs vs).toArray }) : wpAny (model prog w) A (call (.builtin "sorted") [.ref l]) Q E s :=
  sorted_of_sortT hl hL (args_sorted1 _) (fun _ => args_list_sort _) fun _ => list_sort_vals (s := { s with heap := copyHeap s.heap vs }) (copyHeap_at s.heap vs) S hL ⟨rfl, h⟩
theorem sorted_cmpT {β : Type} {vs : List Value} {bs : List β} {enc : β → D} {R : Value → β → Prop} {l : Addr} {Q : Value → Shared → Prop} (hl : IsTup s.heap l vs.toArray) (e : EachIs R vs bs) (er : EachIs (fun v b => ∃ as, Reads s.heap v (enc b) as) vs bs)
    (hal : ∀ d ∈ bs.map enc, ∀ d' ∈ bs.map enc, cmpD d d' = true) (hc : ∀ d ∈ bs.map enc, d.canLay0 = true) (ht : ∀ d ∈ bs.map enc, ∃ x r, d = .tuple (x :: r)) (hT : ∀ x r y t, .tuple (x :: r) ∈ bs.map enc → .tuple (y :: t) ∈ bs.map enc → dataType x = dataType y) (hL : bs.length ≤ sizeLine)
    (hu : ∀ b, b ∈ bs → A.units + 2 + (enc b).depth < cLine) (fin : ∀ out, out.length = bs.length → EachIs R out (bs.mergeSort (dataLe false enc)) → Q (.ref (s.heap.objs.size + 1)) { s with heap := sortedAll s.heap vs (List.toArray out) }) :
    wpAny (model prog w) A (call (.builtin "sorted") [.ref l]) Q E s := by
  have er2 : EachIs (fun v b => ∃ as, Reads (sortingHeap (copyHeap s.heap vs) (s.heap.objs.size + 1) vs) v (enc b) as) vs bs := er.mono fun _ _ ⟨as, r⟩ => ⟨as, PyProof.Rows.Reads.keeps (fun _ _ => sorting_copy_old) r⟩
  have er3 := each_map (R := fun v d => ∃ as, Reads (sortingHeap (copyHeap s.heap vs) (s.heap.objs.size + 1) vs) v d as) enc er2
  have hk : EachIs (fun v d => (dataKind (sortingHeap (copyHeap s.heap vs) (s.heap.objs.size + 1) vs) (bs.map enc)).keyOf v = some (keyToks d)) vs (bs.map enc) := (each_mem er3).mono fun _ _ ⟨⟨_, r⟩, hd⟩ => kind_some hc hd r
  refine sorted_valsT hl (sorts_cmp (s := { s with heap := sortingHeap (copyHeap s.heap vs) (s.heap.objs.size + 1) vs }) er3 hal hc ht hT (bound_map hu)) (by rw [e.length]; exact hL) (fin _ (by rw [sortVals_length false rfl]; exact e.length) ?_)
  exact sortVals_each (κ := dataKind _ (bs.map enc)) (fun b => keyToks (enc b)) e (each_of_map enc hk)
theorem sorted_dataT {β : Type} {vs : List Value} {bs : List β} {enc : β → D} {R : Value → β → Prop} {l : Addr} {Q : Value → Shared → Prop} (hl : IsTup s.heap l vs.toArray) (e : EachIs R vs bs) (er : EachIs (fun v b => ∃ as, Reads s.heap v (enc b) as) vs bs) (hal : AllAlike (bs.map enc)) (hk : Sortable (bs.map enc)) (hL : bs.length ≤ sizeLine)
    (hu : ∀ b, b ∈ bs → A.units + 2 + (enc b).depth < cLine) (h : ∀ out, out.length = bs.length → EachIs R out (bs.mergeSort (dataLe false enc)) → Q (.ref (s.heap.objs.size + 1)) { s with heap := sortedAll s.heap vs (List.toArray out) }) :
    wpAny (model prog w) A (call (.builtin "sorted") [.ref l]) Q E s := by
  have er' : EachIs (fun v b => ∃ as, Reads (sortingHeap (copyHeap s.heap vs) (s.heap.objs.size + 1) vs) v (enc b) as) vs bs := er.mono fun _ _ ⟨as, r⟩ => ⟨as, PyProof.Rows.Reads.keeps (fun _ _ => sorting_copy_old) r⟩
  have er3 := each_map (R := fun v d => ∃ as, Reads (sortingHeap (copyHeap s.heap vs) (s.heap.objs.size + 1) vs) v d as) enc er'
  exact sorted_valsT hl (SortsAt.data (s := { s with heap := sortingHeap (copyHeap s.heap vs) (s.heap.objs.size + 1) vs }) er3 hal hk (bound_map hu)) (by rw [e.length]; exact hL)
    (h _ (by rw [sortVals_length false rfl]; exact e.length) (sortVals_data false e er' hal))
end
def isS : D → Bool
  | .str _ => true
  | _ => false
def okSS (ds : List D) : Bool := ds.all isS
def gSortedU : List D → Option D
  | [.tuple ds] => if okSC ds = true ∨ okSS ds = true then some (.list (sortD ds)) else none
  | _ => none
section
variable {X : Cx} {K : KWd}
theorem isS_of {d : D} (h : isS d = true) : ∃ z, d = .str z := by
  cases d <;> first | exact ⟨_, rfl⟩ | cases h
theorem c_sortedU (hu : X.A.units + 65 < cLine) (hK : X.kw = K := by rfl) : CallR X (.builtin "sorted") (rcall K gSortedU) := by
  subst hK
  intro pins s σ H xs us Q I r ⟨S, ds, d, hr, e, occ, k⟩
  unfold gSortedU at e
  split at e
  · rename_i l
    split at e
    · rename_i hok
      cases e
      obtain ⟨v, rfl, r1⟩ := prs1 hr
      obtain ⟨a, ys, rfl, h1, q1⟩ := r1.tuple
      obtain ⟨its, rv, hl, hz⟩ := I.tuple h1
      rw [Vals.ref1 r]
      have hl2 : ys.length = l.length := q1.length
      have ezip : (ys.zip l).map (fun b : V × D => b.2) = l := zip_snd hl2
      have e1 := each_rel rv q1
      have hmem : ∀ b ∈ ys.zip l, b.2 ∈ l := fun b hb => (List.of_mem_zip (a := b.1) (b := b.2) hb).2
      have hnD : ∀ d ∈ l, noD d = true ∧ d.depth ≤ 60 := fun d hd => by
        rcases hok with hok | hok
        · unfold okSC at hok
          simp only [Bool.and_eq_true] at hok
          have := List.all_eq_true.mp hok.2 d hd
          simp only [Bool.and_eq_true, decide_eq_true_eq] at this
          exact ⟨this.1.1.2, this.2⟩
        · obtain ⟨z, rfl⟩ := isS_of (List.all_eq_true.mp hok d hd)
          exact ⟨rfl, by simp [PyData.depth]⟩
      have er : PySem.W.EachIs (fun u (b : V × D) => ∃ as, Reads s.heap u b.2 as) its (ys.zip l) := each_reads I e1 fun b hb => (hnD b.2 (hmem b hb)).1
      have hLz : (ys.zip l).length ≤ sizeLine := by rw [List.length_zip, hl2, Nat.min_self, ← hl2]; exact hz
      have hub : ∀ b, b ∈ ys.zip l → X.A.units + 2 + b.2.depth < cLine := fun b hb => by
        have := (hnD b.2 (hmem b hb)).2
        omega
      have fin : ∀ out : List Value, out.length = (ys.zip l).length → EachIs (fun u (b : V × D) => RelV b.1 u ∧ RelD X.kw S H b.1 b.2) out ((ys.zip l).mergeSort (dataLe false fun b : V × D => b.2)) → EP X pins σ Q (.ref (s.heap.objs.size + 1)) { s with heap := sortedAll s.heap its (List.toArray out) } := fun out hlo ho => by
        obtain ⟨v1, v2⟩ := each_vals (R := fun _ => True) ho
        obtain ⟨ep, he'⟩ := PyProof.Rows.sortedAll_at s.heap its out.toArray
        have hn := I.hok.fresh (Nat.le_succ s.heap.objs.size)
        have em : ((ys.zip l).mergeSort (PySem.W.dataLe false fun b : V × D => b.2)).map (·.2) = sortD l := by
          unfold sortD
          have h := List.map_mergeSort (r := PySem.W.dataLe false fun b : V × D => b.2) (s := PySem.W.dataLe false id) (f := fun b : V × D => b.2) (l := ys.zip l) fun a _ b _ => rfl
          rw [ezip] at h
          exact h
        rw [em] at v2
        have hlen : (((ys.zip l).mergeSort (PySem.W.dataLe false fun b : V × D => b.2)).map (·.1)).length ≤ sizeLine := by
          rw [List.length_map, List.length_mergeSort]; exact hLz
        exact ⟨.ref _, upd H (s.heap.objs.size + 1) (.lst (((ys.zip l).mergeSort (PySem.W.dataLe false fun b : V × D => b.2)).map (·.1))), I.laid (t' := s.toks) (fun _ _ => PyProof.Rows.sortedAll_old) (Nat.le_succ _) ⟨hlen, out, ep, v1, he'⟩, rfl, k _ _ (Ext.new hn) (.lst (fun z => occ _ z hn) (.inl upd_same) (v2.ext (Ext.new hn)))⟩
      rcases hok with hok | hok
      · unfold okSC at hok
        simp only [Bool.and_eq_true] at hok
        obtain ⟨⟨hal, hsf⟩, hall⟩ := hok
        have hall : ∀ d ∈ l, tupNe d = true ∧ d.canLay0 = true := fun d hd => by
          have := List.all_eq_true.mp hall d hd
          simp only [Bool.and_eq_true, decide_eq_true_eq] at this
          exact ⟨this.1.1.1, this.1.2⟩
        refine sorted_cmpT (enc := fun b : V × D => b.2) hl e1 er ?_ ?_ ?_ ?_ hLz hub fin
        · rw [ezip]
          exact fun d hd d' hd' => List.all_eq_true.mp (List.all_eq_true.mp hal d hd) d' hd'
        · rw [ezip]; exact fun d hd => (hall d hd).2
        · rw [ezip]; exact fun d hd => tupNe_of (hall d hd).1
        · rw [ezip]
          intro x r y t m1 m2
          have := List.all_eq_true.mp (List.all_eq_true.mp hsf _ m1) _ m2
          exact eq_of_beq this
      · refine sorted_dataT (enc := fun b : V × D => b.2) hl e1 er ?_ ?_ hLz hub fin
        · rw [ezip]
          intro d hd d' hd'
          obtain ⟨z, rfl⟩ := isS_of (List.all_eq_true.mp hok d hd)
          obtain ⟨z', rfl⟩ := isS_of (List.all_eq_true.mp hok d' hd')
          rfl
        · rw [ezip]
          refine .inr fun d hd => ?_
          obtain ⟨z, rfl⟩ := isS_of (List.all_eq_true.mp hok d hd)
          exact ⟨fun h => (by cases h), fun xs h => (by cases h)⟩
    · cases e
  · cases e
def gSorted5 (ds : List D) : Option D := match gSorted4 ds with
  | some d => some d
  | none => gSortedU ds
theorem c_sorted5 (hcalm : X.calm = true) (hu : X.A.units + 65 < cLine) (hK : X.kw = K := by rfl) : CallR X (.builtin "sorted") (rcall K gSorted5) := by
  intro pins s σ H xs us Q I r ⟨S, ds, d, hr, e, occ, k⟩
  unfold gSorted5 at e
  split at e
  · rename_i d' e'
    cases e
    exact c_sorted4 hcalm hu hK pins s σ H xs us Q I r ⟨S, ds, _, hr, e', occ, k⟩
  · exact c_sortedU hu hK pins s σ H xs us Q I r ⟨S, ds, d, hr, e, occ, k⟩
end
end PD
set_option Elab.async false
set_option linter.all false
set_option maxRecDepth 100000
set_option maxHeartbeats 4000000
namespace PD
open PySem PySem.Spec PyProof.Rows L2 GxR GenX OwnK
section
variable {X : Cx}
end
end PD
set_option Elab.async false
set_option linter.all false
set_option maxRecDepth 100000
set_option maxHeartbeats 4000000
namespace PD
open PySem PySem.Spec PyProof.Rows L2 GxR GenX OwnK
section
variable {X : Cx} {K : KWd}
end
end PD
set_option Elab.async false
set_option linter.all false
set_option maxRecDepth 100000
set_option maxHeartbeats 4000000
namespace PD
open PySem PySem.Spec PyProof.Rows L2 GxR GenX OwnK
section
variable {X : Cx} {F : Frm} {pos p : Pos} {K : KWd} {tg : Expr}
def iE (F : Frm) (m : M (List D)) (eff : List Nat) : TI := fun σ H R => ∃ G, rdI (F.more G) m eff σ H R
theorem PI.ex {tg iter : Expr} {m : M (List D)} {eff : List Nat} (h : ∀ G, PI X tg iter (rdI (F.more G) m eff)) : PI X tg iter (iE F m eff) := ⟨fun pins s σ H R I ⟨G, q⟩ => (h G).run pins s σ H R I q⟩
def lcL2 (g : D → Rho → Option Rho) (mt : M Bool) (mi1 : M (List D)) (g1 : D → Rho → Option Rho) (mt1 : M Bool) (me : M D) (vs vs1 : List Nat) : List D → List D → Rho → Option (List D × Rho)
  | [], acc, ρ => some (acc, ρ)
  | d :: r, acc, ρ => match g d ρ with
    | none => none
    | some ρ1 => (match mt ρ1 with
      | some (true, ρ2) => (match mi1 ρ2 with
        | some (ds1, ρ3) => (match lcL g1 mt1 me vs1 ds1 acc (wipeR ρ3 vs1) with
          | some (acc1, ρ4) => lcL2 g mt mi1 g1 mt1 me vs vs1 r acc1 (wipeR ρ4 vs)
          | none => none)
        | none => none)
      | some (false, ρ2) => lcL2 g mt mi1 g1 mt1 me vs vs1 r acc (wipeR ρ2 vs)
      | none => none)
def mLc2 (mi : M (List D)) (g : D → Rho → Option Rho) (mt : M Bool) (mi1 : M (List D)) (g1 : D → Rho → Option Rho) (mt1 : M Bool) (me : M D) (vs vs1 : List Nat) : M D := fun ρ => match mi ρ with
  | some (ds, ρ1) => (match lcL2 g mt mi1 g1 mt1 me vs vs1 ds [] (wipeR ρ1 vs) with
    | some (acc, ρ2) => some (.list acc, wipeR ρ2 vs)
    | none => none)
  | none => none
theorem lc_inner {B : List Addr} {A : Nat → Addr} {J : It} {ds acc0 res : List D} {G G1 : List Rt} {g : D → Rho → Option Rho} {mt : M Bool} {me : M D} {efft effe vs1 E : List Nat} {σ2 : L2.St} {H H0 : Hp} {ρ ρ0 ρ2 : Rho} {D : Addr} {xs0 : List V} {Nx : Hp → Prop}
    (hv : ∀ i ∈ vs1, i ∉ F.io) (it : ItOk F.K J ds G1) (hDB : D ∈ B) (hD0 : H D = none) (hE1 : ∀ i ∈ vs1, i ∈ E) (hE2 : ∀ i ∈ efft, i ∈ E) (hE3 : ∀ i ∈ effe, i ∈ E)
    (E0 : Ev (F.more (G1 ++ G)) B A (L2.wipe σ2 vs1) H0 ρ0) (h0 : H0 D = some (.lst xs0)) (r0 : RelDs F.K (Av F B A ρ0) H0 xs0 acc0) (g0 : Gro (Ow A ρ) H H0) (l0 : Lv E ρ ρ0) (run : lcL g mt me vs1 ds acc0 ρ0 = some (res, ρ2))
    (fin : ∀ Hc xs, Ev (F.more (G1 ++ G)) B A (L2.wipe σ2 vs1) Hc ρ2 → Hc D = some (.lst xs) → RelDs F.K (Av F B A ρ2) Hc xs res → Gro (Ow A ρ) H Hc → Lv E ρ ρ2 → Nx Hc) :
    ∃ W1 : Nat → Nat → Hp → Prop, (∃ m, W1 0 m H0) ∧ ∀ j k Hc, W1 j k Hc → (J.stop j Hc ∧ Nx Hc) ∨ (J.go j Hc ∧ ∃ Nx1 : Hp → Prop, (∀ H', Nx1 H' → ∃ k', k' < k ∧ W1 (j + 1) k' H') ∧ ∀ x H', J.yld j Hc x H' → wE F vs1 g x (L2.wipe σ2 vs1) H' fun σ3 H5 => L2.wipe σ3 vs1 = L2.wipe σ2 vs1 ∧ tE F mt efft σ3 H5 fun b H6 =>
      if b = true then eE F me [] effe σ3 H6 fun y H7 => ∃ acc, H7 D = some (.lst acc) ∧ acc.length < sizeLine ∧ Nx1 (upd H7 D (.lst (acc ++ [y]))) else Nx1 H6) := by
  refine ⟨fun i m Hc => m = ds.length - i ∧ i ≤ ds.length ∧ ∃ acc xs ρc, Ev (F.more (G1 ++ G)) B A (L2.wipe σ2 vs1) Hc ρc ∧ Hc D = some (.lst xs) ∧ RelDs F.K (Av F B A ρc) Hc xs acc ∧ Gro (Ow A ρ) H Hc ∧ Lv E ρ ρc ∧ lcL g mt me vs1 (ds.drop i) acc ρc = some (res, ρ2), ⟨ds.length, by simp, Nat.zero_le _, acc0, xs0, ρ0, E0, h0, r0, g0, l0, by rw [List.drop_zero]; exact run⟩, ?_⟩
  rintro i m Hc ⟨rfl, hi, acc, xs, ρc, Ec, hDc, rc, gc, lc, hm⟩
  have roots1 : ∀ r ∈ G1, RelG F.K (Av F B A ρc) Hc r := fun r hr => Ec.rootsG r (List.mem_append_left _ hr)
  by_cases hlt : i < ds.length
  · refine .inr ⟨it.goes i _ Hc roots1 hlt, fun H' => ∃ acc xs ρc, Ev (F.more (G1 ++ G)) B A (L2.wipe σ2 vs1) H' ρc ∧ H' D = some (.lst xs) ∧ RelDs F.K (Av F B A ρc) H' xs acc ∧ Gro (Ow A ρ) H H' ∧ Lv E ρ ρc ∧ lcL g mt me vs1 (ds.drop (i + 1)) acc ρc = some (res, ρ2), fun H' q => ⟨ds.length - (i + 1), by omega, rfl, hlt, q⟩, fun x H' y => ?_⟩
    obtain ⟨ext, d, ed, rd⟩ := it.yields i _ Hc x H' roots1 Ec.less.occA hlt y
    rw [drop_cons' ed] at hm
    unfold lcL at hm
    split at hm
    · cases hm
    · rename_i ρg eg
      refine ⟨G1 ++ G, B, A, ρc, d, ρg, Ec.ext ext, rd, eg, fun σ3 H2 E2 g2 hw l2 => ⟨by rw [hw, wipe_wipe], ?_⟩⟩
      have hw2 : L2.wipe σ3 vs1 = L2.wipe σ2 vs1 := by rw [hw, wipe_wipe]
      have hD2 : H2 D = some (.lst xs) := g2.keep _ _ (ext _ _ hDc) (fun z => z) fun ps z => nomatch z
      have ow1 : ∀ a, Ow A ρg a → Ow A ρ a := fun a z => lc.ow (l2.ow z)
      have gro2 : Gro (Ow A ρ) H H2 := gc.trans ((ext.gro).trans (g2.mono fun _ z => z.elim))
      have av1 : ∀ a, Av F B A ρg a → Av F B A ρc a := fun a z => l2.av z
      have rc2 : RelDs F.K (Av F B A ρg) H2 xs acc := ((rc.ext ext).mono g2 (fun a z => z) fun _ z => z.elim).mono (C := fun _ => False) (Gro.refl _) av1 fun _ z => z.elim
      have lg : Lv E ρ ρg := lc.trans' (l2.more hE1)
      split at hm
      · rename_i ρt et
        refine ⟨G1 ++ G, B, A, ρg, true, ρt, E2, et, fun H3 P3 => ?_⟩
        simp only [if_true]
        have hD3 : H3 D = some (.lst xs) := P3.gro.keep _ _ hD2 (E2.notOw hDB) fun ps z => nomatch z
        have rc3 : RelDs F.K (Av F B A ρt) H3 xs acc := rc2.mono P3.gro (fun a z => P3.lv.av z) fun a z => .inr (.inr z)
        have lt : Lv E ρ ρt := lg.trans' (P3.lv.more hE2)
        split at hm
        · rename_i yd ρe ee
          split at hm
          · rename_i hz
            refine ⟨G1 ++ G, B, A, ρt, yd, ρe, P3.env, ee, fun yv H4 P4 r4 => ?_⟩
            have hD4 : H4 D = some (.lst xs) := P4.gro.keep _ _ hD3 (P3.env.notOw hDB) fun ps z => nomatch z
            have rc4 : RelDs F.K (Av F B A ρe) H4 xs acc := rc3.mono P4.gro (fun a z => P4.lv.av z) fun a z => .inr (.inr z)
            have W : Gro (fun a => a = D) H4 (upd H4 D (.lst (xs ++ [yv]))) := Gro.upd hD4 fun ps z => nomatch z
            have le : Lv E ρ ρe := lt.trans' (P4.lv.more hE3)
            refine ⟨xs, hD4, by rw [rc4.length]; exact hz, acc ++ [yd], xs ++ [yv], wipeR ρe vs1, ?_, upd_same, ?_, ?_, le.trans' (wipeR_lv.more hE1), hm⟩
            · have E5 := (P4.env.writeB hDB W).wipe (σ' := L2.wipe σ3 vs1) (vs := vs1) (wipe_length _ _) (fun i h => wipe_ne h) hv
              rw [hw2] at E5
              exact E5
            · refine RelDs.append ?_ (.cons ?_ .nil)
              · exact rc4.mono W (fun a z => wipeR_av a z) fun a z => .inr (.inl (z ▸ hDB))
              · exact r4.plain.mono W (fun a z => wipeR_av (F := F) a z) fun a z => .inr (.inl (z ▸ hDB))
            · exact Gro.fresh (gro2.trans ((P3.gro.mono ow1).trans (P4.gro.mono fun a z => ow1 a (P3.lv.ow z)))) hD0 W
          · cases hm
        · cases hm
      · rename_i ρt et
        refine ⟨G1 ++ G, B, A, ρg, false, ρt, E2, et, fun H3 P3 => ?_⟩
        simp only [Bool.false_eq_true, if_false]
        have hD3 : H3 D = some (.lst xs) := P3.gro.keep _ _ hD2 (E2.notOw hDB) fun ps z => nomatch z
        have rc3 : RelDs F.K (Av F B A ρt) H3 xs acc := rc2.mono P3.gro (fun a z => P3.lv.av z) fun a z => .inr (.inr z)
        have lt : Lv E ρ ρt := lg.trans' (P3.lv.more hE2)
        refine ⟨acc, xs, wipeR ρt vs1, ?_, hD3, ?_, gro2.trans (P3.gro.mono ow1), lt.trans' (wipeR_lv.more hE1), hm⟩
        · have E5 := P3.env.wipe (σ' := L2.wipe σ3 vs1) (vs := vs1) (wipe_length _ _) (fun i h => wipe_ne h) hv
          rw [hw2] at E5
          exact E5
        · exact rc3.mono (C := fun _ => False) (Gro.refl _) (fun a z => wipeR_av a z) fun _ z => z.elim
      · cases hm
  · have e : i = ds.length := by omega
    subst e
    rw [List.drop_length] at hm
    cases hm
    exact .inl ⟨it.stops _ Hc roots1, fin Hc xs Ec hDc rc gc lc⟩
theorem Ev.sub {B : List Addr} {A : Nat → Addr} {σ : L2.St} {H : Hp} {ρ : Rho} {G G1 : List Rt} (E : Ev (F.more (G1 ++ G)) B A σ H ρ) : Ev (F.more G) B A σ H ρ := ⟨E.len, E.plain, E.own, E.inj, E.nS, E.ios, E.few, E.occ, E.occB, E.chg, E.tabs, fun r hr => E.roots r ((List.mem_append.mp hr).elim (fun h => List.mem_append_left _ (List.mem_append_right _ h)) fun h => List.mem_append_right _ h)⟩
theorem Ev.join {B : List Addr} {A : Nat → Addr} {σ : L2.St} {H : Hp} {ρ : Rho} {G G1 : List Rt} (E : Ev (F.more G) B A σ H ρ) (h : ∀ r ∈ G1, RelG F.K (Av F B A ρ) H r) : Ev (F.more (G1 ++ G)) B A σ H ρ := ⟨E.len, E.plain, E.own, E.inj, E.nS, E.ios, E.few, E.occ, E.occB, E.chg, E.tabs, fun r hr => (List.mem_append.mp hr).elim (fun z => (List.mem_append.mp z).elim (h r) fun y => E.roots r (List.mem_append_left _ y)) fun z => E.roots r (List.mem_append_right _ z)⟩
theorem rd_lc2 {mi mi1 : M (List D)} {g g1 : D → Rho → Option Rho} {mt mt1 : M Bool} {me : M D} {effi efft effi1 efft1 effe vs vs1 : List Nat} (hv : ∀ i ∈ vs, i ∉ F.io) (hv1 : ∀ i ∈ vs1, i ∈ vs) {σ : L2.St} {H : Hp} {Q : VK} (h : rdN F (mLc2 mi g mt mi1 g1 mt1 me vs vs1) (effi ++ (vs ++ (efft ++ (effi1 ++ (efft1 ++ effe))))) σ H Q) :
    tLc2 (rdI F mi effi) (wE F vs g) (tE F mt efft) (iE F mi1 effi1) (wE F vs1 g1) (tE F mt1 efft1) (eE F me [] effe) vs vs1 σ H Q := by
  obtain ⟨B, A, ρ, d, ρ', E, hm, k⟩ := h
  have hv1io : ∀ i ∈ vs1, i ∉ F.io := fun i h => hv i (hv1 i h)
  generalize hEf : effi ++ (vs ++ (efft ++ (effi1 ++ (efft1 ++ effe)))) = Ef at *
  have m1 : ∀ i ∈ effi, i ∈ Ef := by subst hEf; intro i h; simp [h]
  have m2 : ∀ i ∈ vs, i ∈ Ef := by subst hEf; intro i h; simp [h]
  have m3 : ∀ i ∈ efft, i ∈ Ef := by subst hEf; intro i h; simp [h]
  have m4 : ∀ i ∈ effi1, i ∈ Ef := by subst hEf; intro i h; simp [h]
  have m5 : ∀ i ∈ efft1, i ∈ Ef := by subst hEf; intro i h; simp [h]
  have m6 : ∀ i ∈ effe, i ∈ Ef := by subst hEf; intro i h; simp [h]
  unfold mLc2 at hm
  split at hm
  · rename_i ds ρ1 e1
    split at hm
    · rename_i res ρ2 e2
      cases hm
      refine ⟨B, A, ρ, ds, ρ1, E, e1, fun J G H1 P1 hG it D hD => ?_⟩
      have Elay : Ev F (D :: B) A σ (upd H1 D (.lst [])) ρ1 := P1.env.hide hD (Ext.new hD) (by rw [upd_same]; simp)
      have ew : ∀ i, i ∉ vs → (L2.wipe σ vs)[i]? = σ[i]? := fun i h => wipe_ne h
      have E0 : Ev (F.more G) (D :: B) A (L2.wipe σ vs) (upd H1 D (.lst [])) (wipeR ρ1 vs) := by
        refine Ev.more ((Elay).wipe (wipe_length σ vs) ew hv) fun r hr => ?_
        refine ((hG r hr).away hD av_cons).ext (Ext.new hD) |>.mono (C := fun _ => False) (Gro.refl _) (fun a z => ?_) fun _ z => z.elim
        rcases z with z | z | ⟨j, e, h, z⟩
        · exact .inl z
        · exact .inr (.inl z)
        · exact .inr (.inr ⟨j, e, (wipeR_some h).1, z⟩)
      have hD0 : H D = none := P1.gro.back hD
      refine ⟨fun i m Hc => m = ds.length - i ∧ i ≤ ds.length ∧ ∃ acc xs ρc, Ev (F.more G) (D :: B) A (L2.wipe σ vs) Hc ρc ∧ Hc D = some (.lst xs) ∧ RelDs F.K (Av F (D :: B) A ρc) Hc xs acc ∧ Gro (Ow A ρ) H Hc ∧ Lv Ef ρ ρc ∧ lcL2 g mt mi1 g1 mt1 me vs vs1 (ds.drop i) acc ρc = some (res, ρ2),
        ⟨ds.length, by simp, Nat.zero_le _, [], [], wipeR ρ1 vs, E0, upd_same, .nil, P1.gro.trans (Ext.new hD).gro, (P1.lv.more m1).trans' (wipeR_lv.more m2), by rw [List.drop_zero]; exact e2⟩, ?_⟩
      rintro i m Hc ⟨rfl, hi, acc, xs, ρc, Ec, hDc, rc, gc, lc, hm⟩
      by_cases hlt : i < ds.length
      · refine .inr ⟨it.goes i _ Hc Ec.rootsG hlt, fun H' => ∃ acc xs ρc, Ev (F.more G) (D :: B) A (L2.wipe σ vs) H' ρc ∧ H' D = some (.lst xs) ∧ RelDs F.K (Av F (D :: B) A ρc) H' xs acc ∧ Gro (Ow A ρ) H H' ∧ Lv Ef ρ ρc ∧ lcL2 g mt mi1 g1 mt1 me vs vs1 (ds.drop (i + 1)) acc ρc = some (res, ρ2), fun H' q => ⟨ds.length - (i + 1), by omega, rfl, hlt, q⟩, fun x H' y => ?_⟩
        obtain ⟨ext, d, ed, rd⟩ := it.yields i _ Hc x H' Ec.rootsG Ec.less.occA hlt y
        rw [drop_cons' ed] at hm
        unfold lcL2 at hm
        split at hm
        · cases hm
        · rename_i ρg eg
          refine ⟨G, D :: B, A, ρc, d, ρg, Ec.ext ext, rd, eg, fun σ2 H2 E2 g2 hw l2 => ⟨by rw [hw, wipe_wipe], ?_⟩⟩
          have hw2 : L2.wipe σ2 vs = L2.wipe σ vs := by rw [hw, wipe_wipe]
          have hD2 : H2 D = some (.lst xs) := g2.keep _ _ (ext _ _ hDc) (fun z => z) fun ps z => nomatch z
          have ow1 : ∀ a, Ow A ρg a → Ow A ρ a := fun a z => lc.ow (l2.ow z)
          have gro2 : Gro (Ow A ρ) H H2 := gc.trans ((ext.gro).trans (g2.mono fun _ z => z.elim))
          have av1 : ∀ a, Av F (D :: B) A ρg a → Av F (D :: B) A ρc a := fun a z => l2.av z
          have rc2 : RelDs F.K (Av F (D :: B) A ρg) H2 xs acc := ((rc.ext ext).mono g2 (fun a z => z) fun _ z => z.elim).mono (C := fun _ => False) (Gro.refl _) av1 fun _ z => z.elim
          have lg : Lv Ef ρ ρg := lc.trans' (l2.more m2)
          split at hm
          · rename_i ρt et
            refine ⟨G, D :: B, A, ρg, true, ρt, E2, et, fun H3 P3 => ?_⟩
            simp only [if_true]
            have hD3 : H3 D = some (.lst xs) := P3.gro.keep _ _ hD2 (E2.notOw List.mem_cons_self) fun ps z => nomatch z
            have rc3 : RelDs F.K (Av F (D :: B) A ρt) H3 xs acc := rc2.mono P3.gro (fun a z => P3.lv.av z) fun a z => .inr (.inr z)
            have lt : Lv Ef ρ ρt := lg.trans' (P3.lv.more m3)
            split at hm
            · rename_i ds1 ρi ei
              split at hm
              · rename_i acc1 ρ4 e4
                refine ⟨G, D :: B, A, ρt, ds1, ρi, P3.env, ei, fun J1 G1 H4 P4 hG1 it1 => ?_⟩
                have hD4 : H4 D = some (.lst xs) := P4.gro.keep _ _ hD3 (P3.env.notOw List.mem_cons_self) fun ps z => nomatch z
                have rc4 : RelDs F.K (Av F (D :: B) A ρi) H4 xs acc := rc3.mono P4.gro (fun a z => P4.lv.av z) fun a z => .inr (.inr z)
                have li : Lv Ef ρ ρi := lt.trans' (P4.lv.more m4)
                have gr4 : Gro (Ow A ρ) H H4 := gro2.trans ((P3.gro.mono ow1).trans (P4.gro.mono fun a z => ow1 a (P3.lv.ow z)))
                have EI : Ev (F.more (G1 ++ G)) (D :: B) A (L2.wipe σ2 vs1) H4 (wipeR ρi vs1) :=
                  Ev.join (P4.env.wipe (wipe_length σ2 vs1) (fun i h => wipe_ne h) hv1io) fun r hr => (hG1 r hr).mono (C := fun _ => False) (Gro.refl _) (fun a z => wipeR_av a z) fun _ z => z.elim
                refine lc_inner (F := F) hv1io it1 List.mem_cons_self hD0 (fun i h => m2 i (hv1 i h)) m5 m6 EI hD4 (rc4.mono (C := fun _ => False) (Gro.refl _) (fun a z => wipeR_av a z) fun _ z => z.elim) gr4 (li.trans' (wipeR_lv.more fun i h => m2 i (hv1 i h))) e4 fun Hc xs' Ec5 hD5 rc5 gc5 lc5 => ?_
                refine ⟨acc1, xs', wipeR ρ4 vs, ?_, hD5, rc5.mono (C := fun _ => False) (Gro.refl _) (fun a z => wipeR_av a z) fun _ z => z.elim, gc5, lc5.trans' (wipeR_lv.more m2), hm⟩
                have E5 := Ec5.sub.wipe (σ' := L2.wipe σ2 vs) (vs := vs) (by rw [wipe_length, wipe_length]) (fun i h => by rw [wipe_ne h, wipe_ne fun z => h (hv1 i z)]) hv
                rw [hw2] at E5
                exact E5
              · cases hm
            · cases hm
          · rename_i ρt et
            refine ⟨G, D :: B, A, ρg, false, ρt, E2, et, fun H3 P3 => ?_⟩
            simp only [Bool.false_eq_true, if_false]
            have hD3 : H3 D = some (.lst xs) := P3.gro.keep _ _ hD2 (E2.notOw List.mem_cons_self) fun ps z => nomatch z
            have rc3 : RelDs F.K (Av F (D :: B) A ρt) H3 xs acc := rc2.mono P3.gro (fun a z => P3.lv.av z) fun a z => .inr (.inr z)
            have lt : Lv Ef ρ ρt := lg.trans' (P3.lv.more m3)
            refine ⟨acc, xs, wipeR ρt vs, ?_, hD3, ?_, gro2.trans (P3.gro.mono ow1), lt.trans' (wipeR_lv.more m2), hm⟩
            · have E5 := P3.env.wipe (σ' := L2.wipe σ2 vs) (vs := vs) (wipe_length _ _) (fun i h => wipe_ne h) hv
              rw [hw2] at E5
              exact E5
            · exact rc3.mono (C := fun _ => False) (Gro.refl _) (fun a z => wipeR_av a z) fun _ z => z.elim
          · cases hm
      · have e : i = ds.length := by omega
        subst e
        rw [List.drop_length] at hm
        cases hm
        have Eb : Ev F (D :: B) A σ Hc (wipeR ρ2 vs) := Ec.less.wipe (wipe_length σ vs).symm (fun i h => (wipe_ne h).symm) hv
        exact .inl ⟨it.stops _ Hc Ec.rootsG, k D Hc ⟨Eb.unhide, gc, lc.trans' (wipeR_lv.more m2)⟩ Eb ⟨fun z => (P1.env.occB D z).1 hD, P1.gro.back hD⟩ ⟨xs, hDc, rc.mono (C := fun _ => False) (Gro.refl _) (fun a z => wipeR_av a z) fun _ z => z.elim⟩⟩
    · cases hm
  · cases hm
theorem x_lc2 {elt iter tg1 iter1 : Expr} {ifs ifs1 : List Expr} {scope : Scope} {own : List (Str × Nat)} {vs1 : List Nat} {mi mi1 : M (List D)} {g g1 : D → Rho → Option Rho} {mt mt1 : M Bool} {me : M D} {effi efft effi1 efft1 effe : List Nat} (hc : X.calm = true) (hN : X.N.Nodup) (hi : PI X tg iter (rdI F mi effi)) (ok : BlkOk X.N X.env.scope scope own)
    (hg : ∀ (s : Shared) (H : Hp) (C : Addr) (cl : List (Str × Addr)) (fp : List Addr) G, PG (X.blk s H scope (compEnvC scope cl C X.env) fp) tg (rdW (F.more G) (own.map (·.2)) g))
    (ht : ∀ (s : Shared) (H : Hp) (C : Addr) (cl : List (Str × Addr)) (fp : List Addr) G, PTs (X.blk s H scope (compEnvC scope cl C X.env) fp) ifs (rdT (F.more G) mt efft))
    (hi1 : ∀ (s : Shared) (H : Hp) (C : Addr) (cl : List (Str × Addr)) (fp : List Addr) G, PI (X.blk s H scope (compEnvC scope cl C X.env) fp) tg1 iter1 (rdI (F.more G) mi1 effi1))
    (hg1 : ∀ (s : Shared) (H : Hp) (C : Addr) (cl : List (Str × Addr)) (fp : List Addr) G, PG (X.blk s H scope (compEnvC scope cl C X.env) fp) tg1 (rdW (F.more G) vs1 g1))
    (ht1 : ∀ (s : Shared) (H : Hp) (C : Addr) (cl : List (Str × Addr)) (fp : List Addr) G, PTs (X.blk s H scope (compEnvC scope cl C X.env) fp) ifs1 (rdT (F.more G) mt1 efft1))
    (he : ∀ (s : Shared) (H : Hp) (C : Addr) (cl : List (Str × Addr)) (fp : List Addr) G, PE (X.blk s H scope (compEnvC scope cl C X.env) fp) elt (rd (F.more G) me [] effe))
    (hv : ∀ i ∈ own.map (·.2), i ∉ F.io := by decide) (hv1 : ∀ i ∈ vs1, i ∈ own.map (·.2) := by decide) (hs : ∀ x, foldedSetIterable iter X.env x = pure x := by intro _; rfl) (hs1 : ∀ env x, foldedSetIterable iter1 env x = pure x := by intro _ _; rfl) :
    PE X (.ListComp elt [⟨tg, iter, ifs, 0⟩, ⟨tg1, iter1, ifs1, 0⟩] scope pos) (rdN F (mLc2 mi g mt mi1 g1 mt1 me (own.map (·.2)) vs1) (effi ++ (own.map (·.2) ++ (efft ++ (effi1 ++ (efft1 ++ effe)))))) :=
  PE.mono (pe_lc2 hc hN hi ok hv1 (fun s H C cl fp => PG.exW (hg s H C cl fp)) (fun s H C cl fp => PTs.ex (ht s H C cl fp)) (fun s H C cl fp => PI.ex (hi1 s H C cl fp)) (fun s H C cl fp => PG.exW (hg1 s H C cl fp)) (fun s H C cl fp => PTs.ex (ht1 s H C cl fp)) (fun s H C cl fp => PE.ex (he s H C cl fp)) hs hs1) fun σ H Q h => rd_lc2 hv hv1 h
end
end PD
set_option Elab.async false
set_option linter.all false
set_option maxRecDepth 100000
set_option maxHeartbeats 2000000
namespace PD
open PySem PySem.Spec PyProof.Rows L2 GxR GenX OwnK
inductive Lots (H : Hp) : List (Key × V) → List Addr → List (Int × List Str) → Prop
  | nil : Lots H [] [] []
  | cons {z : Int} {zs : List Str} {q : Addr} {kvs : List (Key × V)} {qs : List Addr} {gs : List (Int × List Str)} : H q = some (.lst (zs.map V.str)) → q ∉ qs → Lots H kvs qs gs → Lots H ((.inl z, .ref q) :: kvs) (q :: qs) ((z, zs) :: gs)
theorem Lots.same {H H' : Hp} : ∀ {kvs : List (Key × V)} {qs : List Addr} {gs : List (Int × List Str)}, Lots H kvs qs gs → (∀ q ∈ qs, ∀ xs, H q = some (.lst xs) → H' q = some (.lst xs)) → Lots H' kvs qs gs
  | _, _, _, .nil, _ => .nil
  | _, _, _, .cons e n t, h => .cons (h _ List.mem_cons_self _ e) n (t.same fun q hq => h q (List.mem_cons_of_mem _ hq))
theorem Lots.len {H : Hp} : ∀ {kvs : List (Key × V)} {qs : List Addr} {gs : List (Int × List Str)}, Lots H kvs qs gs → kvs.length = gs.length
  | _, _, _, .nil => rfl
  | _, _, _, .cons e n t => by rw [List.length_cons, List.length_cons, t.len]
theorem Lots.live {H : Hp} : ∀ {kvs : List (Key × V)} {qs : List Addr} {gs : List (Int × List Str)}, Lots H kvs qs gs → ∀ q ∈ qs, H q ≠ none
  | _, _, _, .nil, _, h => nomatch h
  | _, _, _, .cons e n t, q, h => by
    rcases List.mem_cons.mp h with z | z
    · rw [z, e]; simp
    · exact t.live q z
theorem Lots.rel {K : KWd} {S : Addr → Prop} {H : Hp} : ∀ {kvs : List (Key × V)} {qs : List Addr} {gs : List (Int × List Str)}, Lots H kvs qs gs → (∀ q ∈ qs, ¬ S q) → RelKs K S H kvs (gs.map fun g => (.int g.1, .list (g.2.map .str)))
  | _, _, _, .nil, _ => .nil
  | _, _, _, .cons (zs := zs) e n t, h => .cons (k := .inl _) (.lst (h _ List.mem_cons_self) (.inl e) (relStrs zs)) (t.rel fun q hq => h q (List.mem_cons_of_mem _ hq))
where relStrs : ∀ zs : List Str, RelDs K S H (zs.map V.str) (zs.map PyData.str)
  | [] => .nil
  | z :: zs => .cons (.str z) (relStrs zs)
section
variable {F : Frm} {B : List Addr} {A : Nat → Addr} {σ : L2.St} {H : Hp} {ρ : Rho}
end
section
variable {X : Cx} {F : Frm} {pos : Pos}
end
section
variable {X : Cx}
end
section
variable {X : Cx} {F : Frm}
end
end PD
set_option Elab.async false
set_option linter.all false
set_option maxRecDepth 100000
set_option maxHeartbeats 2000000
namespace PD
open PySem PySem.Spec PySem.Calls PyProof.Rows L2 GxR GenX OwnK
open PySem.SeqAt PySem.W
def gSortedTM : List D → Option D
  | [d] => (match tdE d with
    | some es => if okSC (es.map (·.1)) = true then some (.list (sortD (es.map (·.1)))) else none
    | none => none)
  | _ => none
def gSortedTX (ds : List D) : Option D := match gSortedT ds with
  | some d => some d
  | none => gSortedTM ds
section
variable {X : Cx} {K : KWd}
theorem c_sortedTM (hcalm : X.calm = true) (hu : X.A.units + 65 < cLine) (hK : X.kw = K := by rfl) : CallR X (.builtin "sorted") (rcall K gSortedTM) := by
  subst hK
  intro pins s σ H vs us Q I r ⟨S, ds, d, hr, e, occ, k⟩
  unfold gSortedTM at e
  split at e
  · rename_i d0
    split at e
    · rename_i es0 he
      split at e
      · rename_i hok
        cases e
        obtain ⟨v, rfl, r1⟩ := prs1 hr
        obtain ⟨a, xs, rfl, hT, rt⟩ := r1.td he
        obtain ⟨u, eu, rx⟩ := vals1 r
        subst eu
        cases rx
        obtain ⟨lo, hl, o, es, ep, ho, hex, hdt, hes, hkeys, hnd⟩ := td_at I hT rt
        have l1 : es.size = xs.length := size_of_entries hes
        have eds : es0.map (·.1) = xs.map fun x => tupM x.1 := rt.keyL
        rw [eds] at hok k
        unfold okSC at hok
        simp only [Bool.and_eq_true] at hok
        obtain ⟨⟨hal, hsf⟩, hall⟩ := hok
        generalize hds : xs.map (fun x => tupM x.1) = l at hal hsf hall k
        have hall : ∀ d ∈ l, tupNe d = true ∧ noD d = true ∧ d.canLay0 = true ∧ d.depth ≤ 60 := fun d hd => by
          have := List.all_eq_true.mp hall d hd
          simp only [Bool.and_eq_true, decide_eq_true_eq] at this
          exact ⟨this.1.1.1, this.1.1.2, this.1.2, this.2⟩
        refine Calls.call_function_entry PyProof.Rows.kind_sorted PyProof.Rows.plain_sorted PyProof.Rows.entry_sorted (PyProof.Rows.args_sorted1 _) ?_
        unfold Builtin.«sorted»
        refine wpAny_bind (m := checkCount "sorted" 1 1 _) (wpAny_pure ?_)
        refine wpAny_bind (PySem.W.kdu_collect (A := X.A.in1) (kdl_raw lo hex hdt) (I.ok.hd hcalm) ho (by omega) fun h' tk acc hk hacc => ?_)
        have ea : acc.toList = xs.map fun x => Value.ref x.2.1 := by
          have hla : acc.toList.length = xs.length := by rw [Array.length_toList, hacc.1, l1]
          apply List.ext_getElem?
          intro j
          rw [List.getElem?_map]
          cases hj : xs[j]? with
          | none =>
            have := List.getElem?_eq_none_iff.mp hj
            rw [List.getElem?_eq_none (by omega)]; rfl
          | some x =>
            have hlt : j < acc.toList.length := by
              have := (List.getElem?_eq_some_iff.mp hj).1
              omega
            obtain ⟨en, hen, hv⟩ := hacc.2 j acc.toList[j] (by rw [← Array.getElem?_toList]; exact List.getElem?_eq_getElem hlt)
            have qe := entry_at hes j
            rw [hen, hj] at qe
            have e2 : en = entryOfKey (PySem.tupleKind (L2.mixKind X.prog X.w)) x := Option.some.inj qe
            rw [List.getElem?_eq_getElem hlt, hv, e2]
            rfl
        have I1 : Inv X pins σ H { s with heap := h', toks := tk } := I.kept hk
        have hvr : Vals (xs.map fun x => V.ref x.2.1) acc.toList := by
          rw [ea]
          generalize xs = L
          induction L with
          | nil => exact .nil
          | cons x r ih => exact .cons rfl ih
        have hrl : RelDs X.kw S H (xs.map fun x => V.ref x.2.1) l := hds ▸ rels_keys fun x hx => rt.keys x hx
        have hl2 : (xs.map fun x => V.ref x.2.1).length = l.length := hrl.length
        generalize hys : xs.map (fun x => V.ref x.2.1) = ys at hvr hrl hl2
        have hyl : ys.length ≤ sizeLine := by rw [← hys, List.length_map]; exact hl
        have hvl : acc.toList.length ≤ sizeLine := by rw [← Vals.length hvr]; exact hyl
        generalize hvs : acc.toList = ws at hvr hvl
        have ezip : (ys.zip l).map (fun b : V × D => b.2) = l := zip_snd hl2
        have e1 := each_rel hvr hrl
        have hmem : ∀ b ∈ ys.zip l, b.2 ∈ l := fun b hb => (List.of_mem_zip (a := b.1) (b := b.2) hb).2
        have er : PySem.W.EachIs (fun u (b : V × D) => ∃ as, Reads h' u b.2 as) ws (ys.zip l) := each_reads I1 e1 fun b hb => (hall b.2 (hmem b hb)).2.1
        refine wpAny_bind (wpAny_newList ?_ hvl)
        have hoL : (h'.push (seqObj "list" ws.toArray 0)).get? h'.objs.size = some (seqObj "list" ws.toArray 0) := Heap.get?_push_size _ rfl
        have er2 : EachIs (fun v b => ∃ as, Reads (sortingHeap (h'.push (seqObj "list" ws.toArray 0)) h'.objs.size ws) v b.2 as) ws (ys.zip l) := er.mono fun _ _ ⟨as, r⟩ => ⟨as, PyProof.Rows.Reads.keeps (fun b o e => sortingHeap_old (Nat.ne_of_lt (Heap.lt_size e)) (Heap.get?_push_of_some _ e)) r⟩
        have er3 := each_map (R := fun v d => ∃ as, Reads (sortingHeap (h'.push (seqObj "list" ws.toArray 0)) h'.objs.size ws) v d as) (fun b : V × D => b.2) er2
        have hk3 : EachIs (fun v d => (dataKind (sortingHeap (h'.push (seqObj "list" ws.toArray 0)) h'.objs.size ws) ((ys.zip l).map fun b : V × D => b.2)).keyOf v = some (keyToks d)) ws ((ys.zip l).map fun b : V × D => b.2) := (each_mem er3).mono fun _ _ ⟨⟨_, r⟩, hd⟩ => kind_some (by rw [ezip]; exact fun d hd => (hall d hd).2.2.1) hd r
        show wpAny _ _ _ _ _ { s with heap := h'.push (seqObj "list" ws.toArray 0), toks := tk }
        refine wpAny_bind (wpAny_holding (wpAny_call_entry PyProof.Rows.slot_list_sort ⟨_, hoL, rfl⟩ PyProof.Rows.entry_list_sort
          (list_sort_vals (s := { s with heap := h'.push (seqObj "list" ws.toArray 0), toks := tk }) hoL
            (sorts_cmp (s := { s with heap := sortingHeap (h'.push (seqObj "list" ws.toArray 0)) h'.objs.size ws, toks := tk }) er3 ?_ ?_ ?_ ?_ (bound_map (enc := fun b : V × D => b.2) ?_)) hvl ⟨_, rfl, ?_⟩) (PyProof.Rows.args_list_sort _)))
        · rw [ezip]
          exact fun d hd d' hd' => List.all_eq_true.mp (List.all_eq_true.mp hal d hd) d' hd'
        · rw [ezip]; exact fun d hd => (hall d hd).2.2.1
        · rw [ezip]; exact fun d hd => tupNe_of (hall d hd).1
        · rw [ezip]
          intro x r y t m1 m2
          have := List.all_eq_true.mp (List.all_eq_true.mp hsf _ m1) _ m2
          exact eq_of_beq this
        · intro b hb
          have := (hall b.2 (hmem b hb)).2.2.2
          show X.A.units + 2 + b.2.depth < cLine
          omega
        · have hx : EachIs (fun u (b : V × D) => RelV b.1 u ∧ RelD X.kw S H b.1 b.2) (sortVals (dataKind (sortingHeap (h'.push (seqObj "list" ws.toArray 0)) h'.objs.size ws) ((ys.zip l).map fun b : V × D => b.2)) false ws ws) ((ys.zip l).mergeSort (dataLe false fun b : V × D => b.2)) :=
            sortVals_each (κ := dataKind (sortingHeap (h'.push (seqObj "list" ws.toArray 0)) h'.objs.size ws) ((ys.zip l).map fun b : V × D => b.2)) (fun b : V × D => keyToks b.2) e1 (each_of_map (fun b : V × D => b.2) hk3)
          generalize sortVals (dataKind (sortingHeap (h'.push (seqObj "list" ws.toArray 0)) h'.objs.size ws) ((ys.zip l).map fun b : V × D => b.2)) false ws ws = out at hx ⊢
          have ho2 := hx
          obtain ⟨v1, v2⟩ := each_vals (R := fun _ => True) ho2
          obtain ⟨e', he'⟩ := PyProof.Rows.sortedHeap_at (vs := ws) (out := out.toArray) hoL
          have em : ((ys.zip l).mergeSort (PySem.W.dataLe false fun b : V × D => b.2)).map (·.2) = sortD l := by
            unfold sortD
            have h := List.map_mergeSort (r := PySem.W.dataLe false fun b : V × D => b.2) (s := PySem.W.dataLe false id) (f := fun b : V × D => b.2) (l := ys.zip l) fun a _ b _ => rfl
            rw [ezip] at h
            exact h
          rw [em] at v2
          have hlen : (((ys.zip l).mergeSort (PySem.W.dataLe false fun b : V × D => b.2)).map (·.1)).length ≤ sizeLine := by
            rw [List.length_map, List.length_mergeSort, List.length_zip, hl2, Nat.min_self, ← hl2]; exact hyl
          have hn := I1.hok.fresh (Nat.le_refl _)
          refine wpAny_pure ⟨_, rfl, .ref h'.objs.size, upd H h'.objs.size (.lst (((ys.zip l).mergeSort (PySem.W.dataLe false fun b : V × D => b.2)).map (·.1))), I1.laid (t' := tk) (fun b u e => ?_) (Nat.le_refl _)
            ⟨hlen, out, e', v1, he'⟩, rfl, k _ _ (Ext.new hn) (.lst (fun z => occ _ z hn) (.inl upd_same) (v2.ext (Ext.new hn)))⟩
          have hb : b < h'.objs.size := Heap.lt_size e
          rw [PyProof.Rows.sortedHeap_old (Nat.ne_of_lt hb) (by rw [size_push']; exact Nat.lt_succ_of_lt hb)]
          exact Heap.get?_push_of_some _ e
      · cases e
    · cases e
  · cases e
theorem c_sortedTX (hcalm : X.calm = true) (hu : X.A.units + 65 < cLine) (hK : X.kw = K := by rfl) : CallR X (.builtin "sorted") (rcall K gSortedTX) := by
  intro pins s σ H xs us Q I r ⟨S, ds, d, hr, e, occ, k⟩
  unfold gSortedTX at e
  split at e
  · rename_i d' e'
    cases e
    exact c_sortedT hcalm hK pins s σ H xs us Q I r ⟨S, ds, _, hr, e', occ, k⟩
  · exact c_sortedTM hcalm hu hK pins s σ H xs us Q I r ⟨S, ds, d, hr, e, occ, k⟩
end
end PD
set_option Elab.async false
set_option linter.all false
set_option maxRecDepth 100000
set_option maxHeartbeats 2000000
namespace PD
open PySem PySem.Spec PyProof.Rows L2 GxR GenX OwnK
theorem meets_iaddO (l : Addr) (items : Array Value) (n : Nat) (b : Addr) (od : Option Addr) (sl : Array (Option Value)) (items2 : Array Value) (n2 : Nat) (hs0 : ¬(!items.isEmpty && Builtin.List.listTooLong (items.size + items2.size)) = true) (hs1 : items.size ≤ sizeLine) (hs2 : items.size + items2.size ≤ sizeLine + 1) :
    Meets (Builtin.«list.__iadd__» ⟨[.ref l, .ref b], []⟩) (fun _ R s => s.heap.get? l = some { cls := .type "list", dict := none, data := .seq items n, slots := #[] } ∧ s.heap.get? b = some { cls := .type "list", dict := od, data := .seq items2 n2, slots := sl } ∧ R (.ok (.ret (Value.ref l))) { s with heap := s.heap.update l (Obj.mapSeq fun x => x ++ items2), toks := s.toks }) :=
  .of_wp fun prog w A R s h => by
    obtain ⟨hp, g, d, tk, os⟩ := s; obtain ⟨hl, hb, h⟩ := h
    have hz' : (items ++ items2).size ≤ sizeLine + 1 := by rw [Array.size_append]; exact hs2
    wp_walk using (wpAny_updateSeq hl rfl (hz := hs1) (_hz' := hz')), wpAny_loadPart' hl, wpAny_loadPart' hb; exact ⟨_, rfl, h⟩
section
variable {X : Cx} {F : Frm} {pos : Pos}
def rExtL (K : PySem.W.Frag) : R2 := fun x y H Q => ∃ l b xs zs, x = .ref l ∧ y = .ref b ∧ H l = some (.lst xs) ∧ SqL K H b zs ∧ xs.length + zs.length ≤ sizeLine ∧ Q (.ref l) (upd H l (.lst (xs ++ zs)))
theorem iop_extL : OpR X (inplaceOp .Add) (rExtL X.K) := by
  intro pins s σ H x y v u Q I rx ry h
  obtain ⟨l, b, xs, zs, rfl, rfl, hH, hB, hz, q⟩ := h
  cases rx
  cases ry
  obtain ⟨z, its, n, r, hl, e⟩ := I.lstM hH
  obtain ⟨its2, r2, ⟨o2, n2, g2, c2, d2, e2⟩, z2⟩ := I.list hB
  obtain ⟨cl, dc, da, sl⟩ := o2
  cases c2
  cases d2
  cases e2
  have hl2 := Vals.length r
  have hl3 := Vals.length r2
  have hsz : its.toArray.size + its2.toArray.size ≤ sizeLine := by rw [List.size_toArray, List.size_toArray]; omega
  have hlong : ¬ (!its.toArray.isEmpty && Builtin.List.listTooLong (its.toArray.size + its2.toArray.size)) = true := by
    rw [notLongL hsz, Bool.and_false]
    exact Bool.false_ne_true
  refine iadd_road ⟨_, e, rfl⟩ ⟨_, g2, rfl⟩ (call_meets PySem.F.slot_list_iadd ⟨_, e, rfl⟩ PySem.F.entry_list_iadd (PySem.F.args_list_iadd_2 _ _)
    (meets_iaddO l its.toArray n b _ _ its2.toArray n2 hlong (by rw [List.size_toArray]; omega) (by omega)) ⟨e, g2, ?_⟩)
  refine ⟨.ref l, _, I.lset (its' := its ++ its2) (t' := s.toks) hH e (by simp) (r.append r2) ?_, rfl, q⟩
  rw [List.length_append]
  omega
theorem s_extP {i : Nat} {x : Str} {e : Expr} {m : M D} {dep eff : List Nat} {pos' : Pos} (hN : X.N.Nodup) (hi : X.N[i]? = some x) (hx : Loc X.env.scope x) (he : PE X e (rd F m dep eff)) (hne : i ∉ eff := by decide) (hK : X.kw = F.K := by rfl) (hf : X.fn x = true ∨ X.env.scope.names.lookup x = some .local := by first | exact .inl rfl | exact .inr rfl | assumption) :
    PS X (.AugAssign (.Name x pos') .Add e pos) (rdS F (mExt i m)) := PS.mono (ps_aug hN hi hx he iop_extL hf) fun Dn σ H ⟨A, ρ, out, E, hm, k⟩ => by
  unfold mExt at hm
  split at hm
  · rename_i o e2
    split at hm
    · rename_i d ρ1 e1
      split at hm
      · rename_i o' e3
        cases hm
        have hl : ∃ a b, o = .list a ∧ d = .list b ∧ a.length + b.length ≤ sizeLine ∧ o' = .list (a ++ b) := by
          unfold gExt at e3
          split at e3
          · split at e3
            · rename_i hz
              cases e3
              exact ⟨_, _, rfl, rfl, hz, rfl⟩
            · cases e3
          · cases e3
        obtain ⟨ds, bs, rfl, rfl, hz, rfl⟩ := hl
        have h1 := (E.own i _ e2).1
        refine ⟨_, h1, [], A, ρ, _, ρ1, E, e1, fun v H1 P r => ?_⟩
        have e4 : ρ1[i]? = some (some (true, .list ds)) := by rw [P.lv.keep i hne]; exact e2
        obtain ⟨_, xs, g2, g3⟩ := P.env.own i _ e4
        have G : ∀ zs, Gro (fun b => b = A i) H1 (upd H1 (A i) (.lst (xs ++ zs))) := fun zs => Gro.upd g2 fun ps z => nomatch z
        have hC : ∀ a, a = A i → Av F [] A ρ1 a := fun a h => .inr (.inr ⟨i, _, e4, .inl h⟩)
        obtain ⟨q, zs, rfl, r2, r4⟩ := (r.rr P.env).list
        rw [← hK] at r2
        refine ⟨A i, q, xs, zs, rfl, rfl, g2, r2, by rw [g3.length, r4.length]; exact hz, ?_⟩
        show Dn.nx (σ.set i (some (.ref (A i)))) _
        rw [set_self h1]
        exact k A σ _ (P.write (d' := .list (ds ++ bs)) e4 (G zs) ⟨_, upd_same, (g3.append r4).mono (G zs) (fun _ z => z) hC⟩).env
      · cases hm
    · cases hm
  · cases hm
theorem sextP (i : Nat) {x : Str} {e : Expr} {m : M D} {dep eff : List Nat} {pos' : Pos} (hN : X.N.Nodup) (he : PE X e (rd F m dep eff)) (hi : X.N[i]? = some x := by rfl) (hx : Loc X.env.scope x := by first | exact Or.inl rfl | exact Or.inr rfl) (hne : (!decide (i ∈ eff)) = true := by rfl) (hK : X.kw = F.K := by rfl)
    (hf : X.fn x = true ∨ X.env.scope.names.lookup x = some .local := by first | exact .inl rfl | exact .inr rfl) : PS X (.AugAssign (.Name x pos') .Add e pos) (rdS F (mExt i m)) := s_extP hN hi hx he (nio hne) hK hf
def mParN (i j : Nat) (m : M D) : MS := fun ρ => match m ρ with
  | some (d, ρ1) => if i < ρ1.length ∧ j < ρ1.length then some (.nx ((ρ1.set j (some (false, d))).set i (some (true, .list [])))) else none
  | none => none
theorem s_parN (i j : Nat) {x y : Str} {e : Expr} {m : M D} {eff : List Nat} {px py pt p1 : Pos} {kt k2 pt2} (hc : X.calm = true) (hN : X.N.Nodup) (he : PE X e (rd F m [] eff)) (hij : (decide (i ≠ j)) = true := by rfl) (hi : X.N[i]? = some x := by rfl) (hj : X.N[j]? = some y := by rfl)
    (hx : X.env.scope.names.lookup x = some .local := by rfl) (hy : X.env.scope.names.lookup y = some .local := by rfl) (hio : (!decide (i ∈ F.io)) = true := by rfl) (hjo : (!decide (j ∈ F.io)) = true := by rfl)
    (he2 : starEach [.List [] p1, e] X.env = (false, eval (.List [] p1) X.env) :: starEach [e] X.env := by rfl) (he3 : starEach [e] X.env = (false, eval e X.env) :: starEach [] X.env := by rfl)
    (hw : swappedStores [.Tuple [.Name x px, .Name y py] kt pt] (.Tuple [.List [] p1, e] k2 pt2) X.env = pure (some [x, y]) := by rfl)
    (hs : swapsWithSole [.Tuple [.Name x px, .Name y py] kt pt] (.Tuple [.List [] p1, e] k2 pt2) pos.line X.env = pure false := by rfl) :
    PS X (.Assign [.Tuple [.Name x px, .Name y py] kt pt] (.Tuple [.List [] p1, e] k2 pt2) pos) (rdS F (mParN i j m)) :=
  PS.mono (ps_par hc hN hi hj (of_decide_eq_true hij) hx hy (pa_cons (x_lstN (F := F) (pe_lst xa_nil)) (pa_cons he pa_nil he3) he2) hw hs) fun Dn σ H ⟨A, ρ, out, E, hm, k⟩ => by
    unfold mParN at hm
    split at hm
    · rename_i d ρ1 e1
      split at hm
      · rename_i hl
        cases hm
        refine ⟨[], A, ρ, .list [], ρ, E, rfl, fun p H1 P1 E1 hp r1 => ⟨[p], A, ρ, d, ρ1, E1, e1, fun v H2 P2 r2 => ⟨.ref p, v, rfl, ?_⟩⟩⟩
        have r3 : ∀ S, RelO F.K S H2 p (.list []) := fun S => by
          obtain ⟨xs, e, rk⟩ := r1
          cases rk
          exact ⟨[], P2.gro.keep _ _ e (E1.notOw List.mem_cons_self) (fun ps z => nomatch z), .nil⟩
        have E3 := P2.env.setPlain (nio hjo) hl.2 r2.plain
        have E4 := E3.setOwn (nio hio) (by rw [List.length_set]; exact hl.1) (r3 _) hp.1
        have ne : j ≠ i := fun e => of_decide_eq_true hij e.symm
        rw [List.set_comm _ _ ne] at E4
        exact k _ _ H2 E4
      · cases hm
    · cases hm
end
end PD
set_option Elab.async false
set_option linter.all false
set_option maxRecDepth 100000
set_option maxHeartbeats 2000000
namespace PD
open PySem PySem.Spec PyProof.Rows L2 GxR GenX OwnK
class Tg {β : Sort u} (b : β) : Type where
instance (priority := high) instTg {β : Sort u} {b : β} : Tg b := ⟨⟩
def Wp {α : Type} (o : Option α) (Q : α → Prop) [Tg Q] : Prop := ∃ a, o = some a ∧ Q a
def bcs (b : Bool) (p q : Prop) [Tg p] [Tg q] : Prop := (b = true → p) ∧ (b = false → q)
def seqQ (K : Rho → Prop) (Q : Out → Prop) [Tg K] [Tg Q] : Out → Prop
  | .nx ρ => K ρ
  | o => Q o
def forQ (I : Rho → Prop) (Q : Out → Prop) [Tg I] [Tg Q] : Out → Prop
  | .nx ρ => I ρ
  | .ct ρ => I ρ
  | .bk ρ => Q (.nx ρ)
  | .rt v ρ => Q (.rt v ρ)
def runQ (n : Nat) (Q : D × List D → Prop) [Tg Q] : Out → Prop
  | .rt d ρ => Q (d, backR ρ n)
  | .nx ρ => Q (.none, backR ρ n)
  | _ => False
def runQN (n : Nat) (Q : D × List D → Prop) [Tg Q] : Out → Prop
  | .rt d ρ => Q (d, backR ρ n)
  | _ => False
section
variable {α β : Type} {Q : α → Prop} {ρ : Rho}
theorem Wp.mono {o : Option α} {Q Q' : α → Prop} (h : Wp o Q) (k : ∀ a, Q a → Q' a) : Wp o Q' := let ⟨a, e, q⟩ := h; ⟨a, e, k a q⟩
theorem W_some {a : α} : Wp (some a) Q ↔ Q a := ⟨fun ⟨b, e, q⟩ => by cases e; exact q, fun q => ⟨a, rfl, q⟩⟩
theorem W_none : Wp (none : Option α) Q ↔ False := ⟨fun ⟨b, e, q⟩ => (nomatch e), fun z => z.elim⟩
theorem W_ite {c : Prop} [Decidable c] {a b : Option α} : Wp (if c then a else b) Q ↔ (c → Wp a Q) ∧ (¬ c → Wp b Q) := by
  by_cases h : c <;> simp [h]
theorem W_map {o : Option β} {f : β → α} : Wp (o.map f) Q ↔ Wp o fun b => Q (f b) := by
  cases o with
  | none => exact ⟨fun h => (W_none.mp h).elim, fun h => (W_none.mp h).elim⟩
  | some b => exact ⟨fun h => W_some.mpr ((W_some (a := f b)).mp h), fun h => W_some.mpr ((W_some (a := b) (Q := fun b => Q (f b))).mp h)⟩
theorem W_bind {o : Option β} {f : β → Option α} : Wp (o.bind f) Q ↔ Wp o fun b => Wp (f b) Q := by
  cases o with
  | none => exact ⟨fun h => (W_none.mp h).elim, fun h => (W_none.mp h).elim⟩
  | some b => exact ⟨fun h => W_some.mpr h, fun h => (W_some (a := b) (Q := fun b => Wp (f b) Q)).mp h⟩
theorem bcs_true {p q : Prop} : bcs true p q ↔ p := by simp [bcs]
theorem bcs_false {p q : Prop} : bcs false p q ↔ q := by simp [bcs]
theorem bcs_dec {c : Prop} [Decidable c] {p q : Prop} : bcs (decide c) p q ↔ (c → p) ∧ (¬ c → q) := by simp [bcs]
theorem bcs_not {b : Bool} {p q : Prop} : bcs (!b) p q ↔ bcs b q p := by cases b <;> simp [bcs]
theorem seqQ_nx {K : Rho → Prop} {Q : Out → Prop} : seqQ K Q (.nx ρ) ↔ K ρ := Iff.rfl
theorem seqQ_rt {K : Rho → Prop} {Q : Out → Prop} {d : D} : seqQ K Q (.rt d ρ) ↔ Q (.rt d ρ) := Iff.rfl
theorem seqQ_bk {K : Rho → Prop} {Q : Out → Prop} : seqQ K Q (.bk ρ) ↔ Q (.bk ρ) := Iff.rfl
theorem seqQ_ct {K : Rho → Prop} {Q : Out → Prop} : seqQ K Q (.ct ρ) ↔ Q (.ct ρ) := Iff.rfl
theorem forQ_nx {K : Rho → Prop} {Q : Out → Prop} : forQ K Q (.nx ρ) ↔ K ρ := Iff.rfl
theorem forQ_rt {K : Rho → Prop} {Q : Out → Prop} {d : D} : forQ K Q (.rt d ρ) ↔ Q (.rt d ρ) := Iff.rfl
theorem forQ_bk {K : Rho → Prop} {Q : Out → Prop} : forQ K Q (.bk ρ) ↔ Q (.nx ρ) := Iff.rfl
theorem forQ_ct {K : Rho → Prop} {Q : Out → Prop} : forQ K Q (.ct ρ) ↔ K ρ := Iff.rfl
end
section
variable {Q : D × Rho → Prop} {QB : Bool × Rho → Prop} {QL : List D × Rho → Prop} {QS : Out → Prop} {QO : Option Int × Rho → Prop} {ρ : Rho}
theorem W_runD {n : Nat} {io : List Nat} {mb : MS} {ds : List D} {Q : D × List D → Prop} : Wp (runD n io mb ds) Q ↔ Wp (mb (startR io n ds)) (runQ ds.length Q) := by
  unfold runD
  cases mb (startR io n ds) with
  | none => exact ⟨fun h => (W_none.mp h).elim, fun h => (W_none.mp h).elim⟩
  | some o => cases o <;> (simp only [W_some, W_none] <;> simp [runQ])
theorem W_runN {n : Nat} {io : List Nat} {mb : MS} {ds : List D} {Q : D × List D → Prop} : Wp (runN n io mb ds) Q ↔ Wp (mb (startR io n ds)) (runQN ds.length Q) := by
  unfold runN
  cases mb (startR io n ds) with
  | none => exact ⟨fun h => (W_none.mp h).elim, fun h => (W_none.mp h).elim⟩
  | some o => cases o <;> (simp only [W_some, W_none] <;> simp [runQN])
theorem isBg_l (ds : List D) : isBg (.list ds) = false := rfl
theorem isBg_d (ds : List (D × D)) : isBg (.dict ds) = false := rfl
theorem isBg_t (ds : List D) : isBg (.tuple ds) = true := rfl
theorem mFrz_eq {i : Nat} : mFrz i ρ = match ρ[i]? with | some (some (true, d)) => (if isBg d = true then none else some (d, ρ.set i (some (false, d)))) | some (some (false, d)) => some (d, ρ.set i (some (false, d))) | _ => none := by
  have self : ∀ d, ρ[i]? = some (some (false, d)) → ρ.set i (some (false, d)) = ρ := fun d e => by
    apply List.ext_getElem?
    intro j
    rw [List.getElem?_set]
    split
    · rename_i h; subst h
      obtain ⟨h1, h2⟩ := List.getElem?_eq_some_iff.mp e
      simp [h1, h2, e]
    · rfl
  unfold mFrz
  cases h : ρ[i]? with
  | none => rfl
  | some z =>
    cases z with
    | none => rfl
    | some w =>
      obtain ⟨b, d⟩ := w
      cases b with
      | true => rfl
      | false => simp only [self d h]
theorem W_bin {g : D → D → Option D} {m1 m2 : M D} : Wp (mBin g m1 m2 ρ) Q ↔ Wp (m1 ρ) fun r1 => Wp (m2 r1.2) fun r2 => Wp (g r1.1 r2.1) fun d => Q (d, r2.2) := by
  unfold mBin
  cases m1 ρ with
  | none => simp [W_none]
  | some r1 =>
    simp only [W_some]
    cases m2 r1.2 with
    | none => simp [W_none]
    | some r2 =>
      simp only [W_some]
      cases g r1.1 r2.1 <;> simp [W_some, W_none]
theorem W_nil : Wp (mNil ρ) QL ↔ QL ([], ρ) := W_some
theorem W_cons {m : M D} {ms : M (List D)} : Wp (mCons m ms ρ) QL ↔ Wp (m ρ) fun r1 => Wp (ms r1.2) fun r2 => QL (r1.1 :: r2.1, r2.2) := by
  unfold mCons
  cases m ρ with
  | none => simp [W_none]
  | some r1 =>
    simp only [W_some]
    cases ms r1.2 <;> simp [W_some, W_none]
theorem W_app {g : List D → Option D} {m : M (List D)} : Wp (mApp g m ρ) Q ↔ Wp (m ρ) fun r => Wp (g r.1) fun d => Q (d, r.2) := by
  unfold mApp
  cases m ρ with
  | none => simp [W_none]
  | some r1 =>
    simp only [W_some]
    cases g r1.1 <;> simp [W_some, W_none]
theorem W_un {g : D → Option D} {m : M D} : Wp (mUn g m ρ) Q ↔ Wp (m ρ) fun r => Wp (g r.1) fun d => Q (d, r.2) := by
  unfold mUn
  cases m ρ with
  | none => simp [W_none]
  | some r1 =>
    simp only [W_some]
    cases g r1.1 <;> simp [W_some, W_none]
def boolQ (K : Bool → Prop) [Tg K] : D → Prop
  | .bool b => K b
  | _ => False
theorem boolQ_bool {K : Bool → Prop} {b : Bool} : boolQ K (.bool b) ↔ K b := Iff.rfl
def intQ (K : Int → Prop) [Tg K] : D → Prop
  | .int b => K b
  | _ => False
theorem intQ_int {K : Int → Prop} {b : Int} : intQ K (.int b) ↔ K b := Iff.rfl
theorem W_mB {m : M D} : Wp (mB m ρ) QB ↔ Wp (m ρ) fun r => boolQ (fun b => QB (b, r.2)) r.1 := by
  unfold mB
  cases m ρ with
  | none => simp [W_none]
  | some r1 =>
    obtain ⟨d, ρ1⟩ := r1
    cases d <;> (simp only [W_some, W_none] <;> simp [boolQ])
theorem W_andT {m1 m2 : M Bool} : Wp (mAndT m1 m2 ρ) QB ↔ Wp (m1 ρ) fun r => bcs r.1 (Wp (m2 r.2) QB) (QB (false, r.2)) := by
  unfold mAndT
  cases m1 ρ with
  | none => simp [W_none]
  | some r1 =>
    obtain ⟨b, ρ1⟩ := r1
    cases b <;> (simp only [W_some] <;> simp [bcs])
theorem W_orT {m1 m2 : M Bool} : Wp (mOrT m1 m2 ρ) QB ↔ Wp (m1 ρ) fun r => bcs r.1 (QB (true, r.2)) (Wp (m2 r.2) QB) := by
  unfold mOrT
  cases m1 ρ with
  | none => simp [W_none]
  | some r1 =>
    obtain ⟨b, ρ1⟩ := r1
    cases b <;> (simp only [W_some] <;> simp [bcs])
theorem W_notT {m1 : M Bool} : Wp (mNotT m1 ρ) QB ↔ Wp (m1 ρ) fun r => QB (!r.1, r.2) := by
  unfold mNotT
  cases m1 ρ with
  | none => simp [W_none]
  | some r1 => simp [W_some]
theorem W_andV {m1 m2 : M D} : Wp (mAndV m1 m2 ρ) Q ↔ Wp (m1 ρ) fun r => boolQ (fun b => bcs b (Wp (m2 r.2) Q) (Q (.bool false, r.2))) r.1 := by
  unfold mAndV
  cases m1 ρ with
  | none => simp [W_none]
  | some r1 =>
    obtain ⟨d, ρ1⟩ := r1
    cases d with
    | bool b => cases b <;> (simp only [W_some, W_none] <;> simp [boolQ, bcs])
    | _ => (simp only [W_some, W_none] <;> simp [boolQ])
theorem W_orV {m1 m2 : M D} : Wp (mOrV m1 m2 ρ) Q ↔ Wp (m1 ρ) fun r => boolQ (fun b => bcs b (Q (.bool true, r.2)) (Wp (m2 r.2) Q)) r.1 := by
  unfold mOrV
  cases m1 ρ with
  | none => simp [W_none]
  | some r1 =>
    obtain ⟨d, ρ1⟩ := r1
    cases d with
    | bool b => cases b <;> (simp only [W_some, W_none] <;> simp [boolQ, bcs])
    | _ => (simp only [W_some, W_none] <;> simp [boolQ])
theorem W_notV {m1 : M D} : Wp (mNotV m1 ρ) Q ↔ Wp (m1 ρ) fun r => boolQ (fun b => Q (.bool (!b), r.2)) r.1 := by
  unfold mNotV
  cases m1 ρ with
  | none => simp [W_none]
  | some r1 =>
    obtain ⟨d, ρ1⟩ := r1
    cases d <;> (simp only [W_some, W_none] <;> simp [boolQ])
theorem W_if {c : M Bool} {m1 m2 : M D} : Wp (mIf c m1 m2 ρ) Q ↔ Wp (c ρ) fun r => bcs r.1 (Wp (m1 r.2) Q) (Wp (m2 r.2) Q) := by
  unfold mIf
  cases c ρ with
  | none => simp [W_none]
  | some r1 =>
    obtain ⟨b, ρ1⟩ := r1
    cases b <;> (simp only [W_some] <;> simp [bcs])
theorem W_mP {m : M D} : Wp (mP m ρ) QO ↔ Wp (m ρ) fun r => intQ (fun i => QO (some i, r.2)) r.1 := by
  unfold mP
  cases m ρ with
  | none => simp [W_none]
  | some r1 =>
    obtain ⟨d, ρ1⟩ := r1
    cases d <;> (simp only [W_some, W_none] <;> simp [intQ])
theorem W_noP : Wp (mNoP ρ) QO ↔ QO (none, ρ) := W_some
theorem W_sl {m : M D} {ml mh : M (Option Int)} : Wp (mSl m ml mh ρ) Q ↔ Wp (m ρ) fun r => Wp (ml r.2) fun l => Wp (mh l.2) fun h => Wp (gSl l.1 h.1 r.1) fun d => Q (d, h.2) := by
  unfold mSl
  cases m ρ with
  | none => simp [W_none]
  | some r1 =>
    simp only [W_some]
    cases ml r1.2 with
    | none => simp [W_none]
    | some r2 =>
      simp only [W_some]
      cases mh r2.2 with
      | none => simp [W_none]
      | some r3 =>
        simp only [W_some]
        cases gSl r2.1 r3.1 r1.1 <;> simp [W_some, W_none]
theorem W_items {m : M D} : Wp (mItems m ρ) QL ↔ Wp (m ρ) fun r => Wp (gItems r.1) fun d => QL (d, r.2) := by
  unfold mItems
  cases m ρ with
  | none => simp [W_none]
  | some r1 =>
    simp only [W_some]
    cases gItems r1.1 <;> simp [W_some, W_none]
theorem W_range {g : List D → Option (List D)} {m : M (List D)} : Wp (mRange g m ρ) QL ↔ Wp (m ρ) fun r => Wp (g r.1) fun d => QL (d, r.2) := by
  unfold mRange
  cases m ρ with
  | none => simp [W_none]
  | some r1 =>
    simp only [W_some]
    cases g r1.1 <;> simp [W_some, W_none]
theorem W_chain {g g' : D → D → Option D} {ma mb mc : M D} : Wp (mChain g g' ma mb mc ρ) Q ↔ Wp (ma ρ) fun a => Wp (mb a.2) fun b => Wp (g a.1 b.1) fun t => boolQ (fun z => bcs z (Wp (mc b.2) fun c => Wp (g' b.1 c.1) fun d => Q (d, c.2)) (Q (.bool false, b.2))) t := by
  unfold mChain
  cases ma ρ with
  | none => simp [W_none]
  | some a =>
    simp only [W_some]
    cases mb a.2 with
    | none => simp [W_none]
    | some b =>
      simp only [W_some]
      cases g a.1 b.1 with
      | none => simp [W_none]
      | some t =>
        simp only [W_some]
        cases t with
        | bool z =>
          cases z with
          | false => (simp only [W_some] <;> simp [boolQ, bcs])
          | true =>
            simp only [boolQ, bcs_true]
            cases mc b.2 with
            | none => simp [W_none]
            | some c =>
              simp only [W_some]
              cases g' b.1 c.1 <;> simp [W_some, W_none]
        | _ => (simp only [W_none] <;> simp [boolQ])
theorem W_seq {m1 m2 : MS} : Wp (mSeq m1 m2 ρ) QS ↔ Wp (m1 ρ) (seqQ (fun ρ1 => Wp (m2 ρ1) QS) QS) := by
  unfold mSeq
  cases m1 ρ with
  | none => simp [W_none]
  | some o => cases o <;> (simp only [W_some] <;> simp [seqQ])
theorem W_next : Wp (mNext ρ) QS ↔ QS (.nx ρ) := W_some
theorem W_break : Wp (mBreak ρ) QS ↔ QS (.bk ρ) := W_some
theorem W_cont : Wp (mCont ρ) QS ↔ QS (.ct ρ) := W_some
theorem W_ret {m : M D} : Wp (mRet m ρ) QS ↔ Wp (m ρ) fun r => QS (.rt r.1 r.2) := W_map
theorem W_drop {m : M D} : Wp (mDrop m ρ) QS ↔ Wp (m ρ) fun r => QS (.nx r.2) := W_map
theorem W_ifS {c : M Bool} {m1 m2 : MS} : Wp (mIfS c m1 m2 ρ) QS ↔ Wp (c ρ) fun r => bcs r.1 (Wp (m1 r.2) QS) (Wp (m2 r.2) QS) := by
  unfold mIfS
  cases c ρ with
  | none => simp [W_none]
  | some r1 =>
    obtain ⟨b, ρ1⟩ := r1
    cases b <;> (simp only [W_some] <;> simp [bcs])
theorem W_asg {m : M D} {g : D → Rho → Option Rho} : Wp (mAsg m g ρ) QS ↔ Wp (m ρ) fun r => Wp (g r.1 r.2) fun ρ1 => QS (.nx ρ1) := by
  unfold mAsg
  cases m ρ with
  | none => simp [W_none]
  | some r1 => simp only [W_some]; exact W_map
theorem W_par {i j : Nat} {m : M (List D)} : Wp (mPar i j m ρ) QS ↔ Wp (m ρ) fun r => ∃ a b, r.1 = [a, b] ∧ i < r.2.length ∧ j < r.2.length ∧ QS (.nx ((r.2.set i (some (false, a))).set j (some (false, b)))) := by
  unfold mPar
  cases m ρ with
  | none => simp [W_none]
  | some r1 =>
    obtain ⟨ds, ρ1⟩ := r1
    simp only [W_some]
    match ds with
    | [] => simp [W_none]
    | [a] => simp [W_none]
    | [a, b] =>
      simp only [W_ite, W_some, W_none]
      constructor
      · intro ⟨h1, h2⟩
        by_cases h : i < ρ1.length ∧ j < ρ1.length
        · exact ⟨a, b, rfl, h.1, h.2, h1 h⟩
        · exact (h2 h).elim
      · intro ⟨a', b', e, h1, h2, h3⟩
        cases e
        exact ⟨fun _ => h3, fun h => (h ⟨h1, h2⟩).elim⟩
    | a :: b :: c :: r => simp [W_none]
def ownQ (K : D → Prop) [Tg K] : Option (Option (Bool × D)) → Prop
  | some (some (true, o)) => K o
  | _ => False
def borQ (K : D → Prop) [Tg K] : Option (Option (Bool × D)) → Prop
  | some (some (false, o)) => K o
  | _ => False
theorem ownQ_true {K : D → Prop} {o : D} : ownQ K (some (some (true, o))) ↔ K o := Iff.rfl
theorem borQ_false {K : D → Prop} {o : D} : borQ K (some (some (false, o))) ↔ K o := Iff.rfl
theorem W_put {i : Nat} {mk mv : M D} : Wp (mPut i mk mv ρ) QS ↔ Wp (mv ρ) fun v => ownQ (fun o => Wp (mk v.2) fun k => Wp (gPut o k.1 v.1) fun o' => QS (.nx (k.2.set i (some (true, o'))))) (v.2[i]?) := by
  unfold mPut
  cases mv ρ with
  | none => simp [W_none]
  | some v =>
    simp only [W_some]
    split
    · rename_i o e
      rw [e]
      simp only [ownQ]
      cases mk v.2 with
      | none => simp [W_none]
      | some k =>
        simp only [W_some]
        cases gPut o k.1 v.1 <;> simp [W_some, W_none]
    · rename_i h
      unfold ownQ
      split
      · rename_i o e; exact absurd e (h o)
      · simp [W_none]
theorem W_aug {i : Nat} {g : D → D → Option D} {m : M D} : Wp (mAug i g m ρ) QS ↔ borQ (fun x => Wp (m ρ) fun r => Wp (g x r.1) fun d => i < r.2.length ∧ QS (.nx (r.2.set i (some (false, d))))) (ρ[i]?) := by
  unfold mAug
  split
  · rename_i x e
    rw [e]
    simp only [borQ]
    cases m ρ with
    | none => simp [W_none]
    | some r =>
      simp only [W_some]
      cases g x r.1 with
      | none => simp [W_none]
      | some d => simp only [W_some, W_ite, W_none]; by_cases h : i < r.2.length <;> simp [h]
  · rename_i h
    unfold borQ
    split
    · rename_i o e; exact absurd e (h o)
    · simp [W_none]
theorem W_augL {i : Nat} {g : D → D → Option D} {mk me : M D} : Wp (mAugL i g mk me ρ) QS ↔ ownQ (fun o => Wp (mk ρ) fun k => Wp (gIxL o k.1) fun x => Wp (me k.2) fun r => Wp (g x r.1) fun d => Wp (gPut o k.1 d) fun o' => QS (.nx (r.2.set i (some (true, o'))))) (ρ[i]?) := by
  unfold mAugL
  split
  · rename_i x e
    rw [e]
    simp only [ownQ]
    cases mk ρ with
    | none => simp [W_none]
    | some k =>
      simp only [W_some]
      cases gIxL x k.1 with
      | none => simp [W_none]
      | some d =>
        simp only [W_some]
        cases me k.2 with
        | none => simp [W_none]
        | some r =>
          simp only [W_some]
          cases g d r.1 with
          | none => simp [W_none]
          | some z =>
            simp only [W_some]
            cases gPut x k.1 z <;> simp [W_some, W_none]
  · rename_i h
    unfold ownQ
    split
    · rename_i o e; exact absurd e (h o)
    · simp [W_none]
theorem W_mut {i : Nat} {g : D → D → Option (D × D)} {m : M D} : Wp (mMut i g m ρ) Q ↔ ownQ (fun o => Wp (m ρ) fun r => Wp (g o r.1) fun z => Q (z.1, r.2.set i (some (true, z.2)))) (ρ[i]?) := by
  unfold mMut
  split
  · rename_i x e
    rw [e]
    simp only [ownQ]
    cases m ρ with
    | none => simp [W_none]
    | some k =>
      simp only [W_some]
      cases g x k.1 <;> simp [W_some, W_none]
  · rename_i h
    unfold ownQ
    split
    · rename_i o e; exact absurd e (h o)
    · simp [W_none]
theorem W_call {f : List D → Option (D × List D)} {ts : List (Option Nat)} {m : M (List D)} : Wp (mCall f ts m ρ) Q ↔ Wp (m ρ) fun r => Wp (f r.1) fun q => q.2.length = r.1.length ∧ Q (q.1, putBack ts q.2 r.2) := by
  unfold mCall
  cases m ρ with
  | none => simp [W_none]
  | some r =>
    simp only [W_some]
    cases f r.1 with
    | none => simp [W_none]
    | some q =>
      simp only [W_some]
      by_cases h : q.2.length = r.1.length
      · rw [if_pos h]; simp only [W_some]; exact ⟨fun z => ⟨h, z⟩, fun z => z.2⟩
      · rw [if_neg h]; simp only [W_none]; exact ⟨fun z => z.elim, fun z => h z.1⟩
theorem W_callK {f : List D → Option (D × List D)} {ga : List D → List D} {m : M (List D)} : Wp (mCallK f ga m ρ) Q ↔ Wp (m ρ) fun r => Wp (f (ga r.1)) fun q => Q (q.1, r.2) := by
  unfold mCallK
  cases m ρ with
  | none => simp [W_none]
  | some r =>
    simp only [W_some]
    cases f (ga r.1) <;> simp [W_some, W_none]
def strQ (K : Str → Prop) [Tg K] : D → Prop
  | .str z => K z
  | _ => False
theorem strQ_str {K : Str → Prop} {z : Str} : strQ K (.str z) ↔ K z := Iff.rfl
theorem W_tab {tbl : List (Str × (List D → Option (D × List D)))} {ts : List (Option Nat)} {mk : M D} {m : M (List D)} : Wp (mTab tbl ts mk m ρ) Q ↔ Wp (mk ρ) fun k => strQ (fun z => Wp (tbl.lookup z) fun fn => Wp (mCall fn ts m k.2) Q) k.1 := by
  unfold mTab
  cases mk ρ with
  | none => simp [W_none]
  | some k =>
    obtain ⟨d, ρ1⟩ := k
    cases d with
    | str z =>
      simp only [W_some]
      show _ ↔ Wp (tbl.lookup z) fun fn => Wp (mCall fn ts m ρ1) Q
      cases tbl.lookup z <;> simp [W_some, W_none]
    | _ => (simp only [W_some, W_none] <;> simp [strQ])
theorem W_consIo {i : Nat} {ms : M (List D)} : Wp (mConsIo i ms ρ) QL ↔ ownQ (fun _ => Wp (ms ρ) fun r => ownQ (fun d => QL (d :: r.1, r.2)) (r.2[i]?)) (ρ[i]?) := by
  unfold mConsIo
  split
  · rename_i x e
    rw [e]
    simp only [ownQ_true]
    cases ms ρ with
    | none => simp [W_none]
    | some r =>
      simp only [W_some]
      cases h : r.2[i]? with
      | none => simp only [W_none]; exact Iff.rfl
      | some z =>
        match z with
        | none => simp only [W_none]; exact Iff.rfl
        | some (true, d) => simp only [W_some]; exact Iff.rfl
        | some (false, d) => simp only [W_none]; exact Iff.rfl
  · rename_i h
    unfold ownQ
    split
    · rename_i o e; exact absurd e (h o)
    · simp [W_none]
def dictQ (K : List (D × D) → Prop) [Tg K] : D → Prop
  | .dict z => K z
  | _ => False
theorem dictQ_dict {K : List (D × D) → Prop} {z : List (D × D)} : dictQ K (.dict z) ↔ K z := Iff.rfl
theorem W_get2 {m1 m2 m3 : M D} : Wp (mGet2 m1 m2 m3 ρ) Q ↔ Wp (m1 ρ) fun a => dictQ (fun kvs => Wp (m2 a.2) fun b => Wp (m3 b.2) fun c => Wp (keyD b.1) fun k => isT kvs = false ∧ Q ((dget kvs k).getD c.1, c.2)) a.1 := by
  unfold mGet2
  cases m1 ρ with
  | none => simp [W_none]
  | some a =>
    obtain ⟨d, ρ1⟩ := a
    cases d with
    | dict z =>
      simp only [W_some]
      show _ ↔ Wp (m2 ρ1) fun b => Wp (m3 b.2) fun c => Wp (keyD b.1) fun k => isT z = false ∧ Q ((dget z k).getD c.1, c.2)
      cases m2 ρ1 with
      | none => simp [W_none]
      | some b =>
        simp only [W_some]
        cases m3 b.2 with
        | none => simp [W_none]
        | some c =>
          simp only [W_some]
          cases keyD b.1 <;> cases isT z <;> simp [W_some, W_none]
    | _ => (simp only [W_some, W_none] <;> simp [dictQ])
theorem W_for {mi : M (List D)} {g : D → Rho → Option Rho} {mb : MS} : Wp (mFor mi g mb ρ) QS ↔ Wp (mi ρ) fun r => Wp (mForL g mb r.1 r.2) QS := by
  unfold mFor
  cases mi ρ <;> simp [W_some, W_none]
theorem W_lc {mi : M (List D)} {g : D → Rho → Option Rho} {mt : M Bool} {me : M D} {vs : List Nat} : Wp (mLc mi g mt me vs ρ) Q ↔ Wp (mi ρ) fun r => Wp (lcL g mt me vs r.1 [] (wipeR r.2 vs)) fun s => Q (.list s.1, wipeR s.2 vs) := by
  unfold mLc
  cases mi ρ with
  | none => simp [W_none]
  | some r =>
    simp only [W_some]
    cases lcL g mt me vs r.1 [] (wipeR r.2 vs) <;> simp [W_some, W_none]
theorem W_dc {mi : M (List D)} {g : D → Rho → Option Rho} {mt : M Bool} {mk mv : M D} {vs : List Nat} : Wp (mDc mi g mt mk mv vs ρ) Q ↔ Wp (mi ρ) fun r => Wp (dcL g mt mk mv vs r.1 [] (wipeR r.2 vs)) fun s => Q (.dict s.1, wipeR s.2 vs) := by
  unfold mDc
  cases mi ρ with
  | none => simp [W_none]
  | some r =>
    simp only [W_some]
    cases dcL g mt mk mv vs r.1 [] (wipeR r.2 vs) <;> simp [W_some, W_none]
theorem W_an {k : Bool} {mi : M (List D)} {g : D → Rho → Option Rho} {mt : M Bool} {me : M D} {vs : List Nat} : Wp (mAn k mi g mt me vs ρ) Q ↔ Wp (mi ρ) fun r => Wp (anL k g mt me vs r.1 (wipeR r.2 vs)) fun s => Q (.bool s.1, wipeR s.2 vs) := by
  unfold mAn
  cases mi ρ with
  | none => simp [W_none]
  | some r =>
    simp only [W_some]
    cases anL k g mt me vs r.1 (wipeR r.2 vs) <;> simp [W_some, W_none]
theorem W_su {mi : M (List D)} {g : D → Rho → Option Rho} {mt : M Bool} {me : M D} {vs : List Nat} : Wp (mSu mi g mt me vs ρ) Q ↔ Wp (mi ρ) fun r => Wp (suL g mt me vs r.1 0 (wipeR r.2 vs)) fun s => Q (.int s.1, wipeR s.2 vs) := by
  unfold mSu
  cases mi ρ with
  | none => simp [W_none]
  | some r =>
    simp only [W_some]
    cases suL g mt me vs r.1 0 (wipeR r.2 vs) <;> simp [W_some, W_none]
end
section
variable {g : D → Rho → Option Rho} {mb : MS} {mt : M Bool} {me mk mv : M D} {vs : List Nat}
theorem W_forL {Q : Out → Prop} : ∀ (ds : List D) (I : Nat → Rho → Prop) (k0 : Nat) (ρ : Rho), I k0 ρ → (∀ k d ρ, ds[k]? = some d → I (k0 + k) ρ → Wp (g d ρ) fun ρ1 => Wp (mb ρ1) (forQ (I (k0 + k + 1)) Q)) → (∀ ρ, I (k0 + ds.length) ρ → Q (.nx ρ)) → Wp (mForL g mb ds ρ) Q
  | [], I, k0, ρ, h0, hs, hq => W_some.mpr (hq ρ h0)
  | d :: r, I, k0, ρ, h0, hs, hq => by
    have h := hs 0 d ρ rfl h0
    unfold mForL
    obtain ⟨ρ1, e1, o, e2, h⟩ := h
    rw [e1]
    simp only [e2]
    have ih : ∀ ρ, I (k0 + 1) ρ → Wp (mForL g mb r ρ) Q := fun ρ h => W_forL r I (k0 + 1) ρ h (fun k d ρ e i => by
      have := hs (k + 1) d ρ (by simpa using e) (by rw [show k0 + (k + 1) = k0 + 1 + k by omega]; exact i)
      rw [show k0 + (k + 1) + 1 = k0 + 1 + k + 1 by omega] at this
      exact this) (fun ρ h => hq ρ (by rw [List.length_cons, show k0 + (r.length + 1) = k0 + 1 + r.length by omega]; exact h))
    cases o with
    | nx ρ2 => exact ih ρ2 h
    | ct ρ2 => exact ih ρ2 h
    | bk ρ2 => exact W_some.mpr h
    | rt v ρ2 => exact W_some.mpr h
theorem W_forK {Q : Out → Prop} {ds : List D} {ρ : Rho} (I : Nat → Rho → Prop) (h0 : I 0 ρ) (hs : ∀ k d ρ, ds[k]? = some d → I k ρ → Wp (g d ρ) fun ρ1 => Wp (mb ρ1) (forQ (I (k + 1)) Q)) (hq : ∀ ρ, I ds.length ρ → Q (.nx ρ)) : Wp (mForL g mb ds ρ) Q :=
  W_forL ds I 0 ρ h0 (fun k d ρ e i => by rw [Nat.zero_add] at *; exact hs k d ρ e i) (fun ρ i => by rw [Nat.zero_add] at i; exact hq ρ i)
theorem W_forR {Q : Out → Prop} {lo : Int} {n : Nat} {ρ : Rho} (I : Nat → Rho → Prop) (h0 : I 0 ρ) (hs : ∀ k ρ, k < n → I k ρ → Wp (g (.int (lo + (k : Nat))) ρ) fun ρ1 => Wp (mb ρ1) (forQ (I (k + 1)) Q)) (hq : ∀ ρ, I n ρ → Q (.nx ρ)) : Wp (mForL g mb (rangeD lo n) ρ) Q :=
  W_forK I h0 (fun k d ρ e i => by
    have hk : k < n := by have := (List.getElem?_eq_some_iff.mp e).1; rwa [rangeD_len] at this
    rw [rangeD_get hk] at e
    cases e
    exact hs k ρ hk i) (fun ρ i => by rw [rangeD_len] at i; exact hq ρ i)
theorem W_forM {α : Type} {Q : Out → Prop} (xs : List α) (e : α → D) {ρ : Rho} (I : List α → Rho → Prop) (h0 : I [] ρ) (hs : ∀ pre x post ρ, xs = pre ++ x :: post → I pre ρ → Wp (g (e x) ρ) fun ρ1 => Wp (mb ρ1) (forQ (I (pre ++ [x])) Q)) (hq : ∀ ρ, I xs ρ → Q (.nx ρ)) : Wp (mForL g mb (xs.map e) ρ) Q := by
  refine W_forK (fun k ρ => I (xs.take k) ρ) (by simpa using h0) (fun k d ρ q i => ?_) (fun ρ i => hq ρ (by simpa using i))
  rw [List.getElem?_map] at q
  cases hx : xs[k]? with
  | none => rw [hx] at q; cases q
  | some x =>
    rw [hx] at q
    cases q
    obtain ⟨hk, hx'⟩ := List.getElem?_eq_some_iff.mp hx
    have h1 : xs = xs.take k ++ x :: xs.drop (k + 1) := by
      rw [← hx', ← List.drop_eq_getElem_cons hk, List.take_append_drop]
    have h2 := hs (xs.take k) x (xs.drop (k + 1)) ρ h1 i
    rw [show xs.take (k + 1) = xs.take k ++ [x] by rw [← hx', List.take_append_getElem hk]]
    exact h2
theorem W_lcL {Q : List D × Rho → Prop} : ∀ (ds : List D) (I : Nat → List D → Rho → Prop) (k0 : Nat) (acc : List D) (ρ : Rho), acc.length ≤ k0 → k0 + ds.length < sizeLine → I k0 acc ρ →
    (∀ k d acc ρ, ds[k]? = some d → I (k0 + k) acc ρ → Wp (g d ρ) fun ρ1 => Wp (mt ρ1) fun r => bcs r.1 (Wp (me r.2) fun y => I (k0 + k + 1) (acc ++ [y.1]) (wipeR y.2 vs)) (I (k0 + k + 1) acc (wipeR r.2 vs))) →
    (∀ acc ρ, acc.length ≤ k0 + ds.length → I (k0 + ds.length) acc ρ → Q (acc, ρ)) → Wp (lcL g mt me vs ds acc ρ) Q
  | [], I, k0, acc, ρ, hl, hz, h0, hs, hq => W_some.mpr (hq acc ρ hl h0)
  | d :: r, I, k0, acc, ρ, hl, hz, h0, hs, hq => by
    have h := hs 0 d acc ρ rfl h0
    rw [List.length_cons] at hz
    have ih : ∀ acc ρ, acc.length ≤ k0 + 1 → I (k0 + 1) acc ρ → Wp (lcL g mt me vs r acc ρ) Q := fun acc ρ hl h => W_lcL r I (k0 + 1) acc ρ hl (by omega) h (fun k d acc ρ e i => by
      have := hs (k + 1) d acc ρ (by simpa using e) (by rw [show k0 + (k + 1) = k0 + 1 + k by omega]; exact i)
      rw [show k0 + (k + 1) + 1 = k0 + 1 + k + 1 by omega] at this
      exact this) (fun acc ρ hl h => hq acc ρ (by rw [List.length_cons]; omega) (by rw [List.length_cons, show k0 + (r.length + 1) = k0 + 1 + r.length by omega]; exact h))
    unfold lcL
    obtain ⟨ρ1, e1, ⟨b, ρ2⟩, e2, h⟩ := h
    rw [e1]
    simp only [e2]
    cases b with
    | true =>
      obtain ⟨⟨y, ρ3⟩, e3, h⟩ := h.1 rfl
      simp only [e3]
      rw [if_pos (by omega)]
      exact ih _ _ (by simp; omega) h
    | false =>
      exact ih _ _ (by omega) (h.2 rfl)
theorem W_lcK {Q : List D × Rho → Prop} {ds : List D} {ρ : Rho} (I : Nat → List D → Rho → Prop) (hz : ds.length < sizeLine) (h0 : I 0 [] ρ)
    (hs : ∀ k d acc ρ, ds[k]? = some d → I k acc ρ → Wp (g d ρ) fun ρ1 => Wp (mt ρ1) fun r => bcs r.1 (Wp (me r.2) fun y => I (k + 1) (acc ++ [y.1]) (wipeR y.2 vs)) (I (k + 1) acc (wipeR r.2 vs)))
    (hq : ∀ acc ρ, acc.length ≤ ds.length → I ds.length acc ρ → Q (acc, ρ)) : Wp (lcL g mt me vs ds [] ρ) Q :=
  W_lcL ds I 0 [] ρ (Nat.le_refl _) (by omega) h0 (fun k d acc ρ e i => by rw [Nat.zero_add] at *; exact hs k d acc ρ e i) (fun acc ρ hl i => by rw [Nat.zero_add] at *; exact hq acc ρ hl i)
theorem W_lcM {α : Type} {Q : List D × Rho → Prop} (xs : List α) (e : α → D) (J : Rho → Prop) (t : α → Bool) (y : α → D) {ρ : Rho} (hz : xs.length < sizeLine) (h0 : J ρ)
    (hs : ∀ x ∈ xs, ∀ ρ, J ρ → Wp (g (e x) ρ) fun ρ1 => Wp (mt ρ1) fun r => r.1 = t x ∧ (t x = true → Wp (me r.2) fun z => z.1 = y x ∧ J (wipeR z.2 vs)) ∧ (t x = false → J (wipeR r.2 vs)))
    (hq : ∀ ρ, J ρ → Q ((xs.filter t).map y, ρ)) : Wp (lcL g mt me vs (xs.map e) [] ρ) Q := by
  refine W_lcK (fun k acc ρ => acc = ((xs.take k).filter t).map y ∧ J ρ) (by simpa using hz) ⟨by simp, h0⟩ (fun k d acc ρ q i => ?_) (fun acc ρ hl i => ?_)
  · rw [List.getElem?_map] at q
    cases hx : xs[k]? with
    | none => rw [hx] at q; cases q
    | some x =>
      rw [hx] at q
      cases q
      obtain ⟨hk, hx'⟩ := List.getElem?_eq_some_iff.mp hx
      refine (hs x (List.mem_of_getElem? hx) ρ i.2).mono fun ρ1 h => h.mono fun r ⟨h1, h2, h3⟩ => ?_
      rw [show xs.take (k + 1) = xs.take k ++ [x] by rw [← hx', List.take_append_getElem hk], List.filter_append, List.map_append, ← i.1]
      refine ⟨fun b => (h2 (h1 ▸ b)).mono fun z hz => ⟨?_, hz.2⟩, fun b => ⟨?_, h3 (h1 ▸ b)⟩⟩
      · have : t x = true := h1 ▸ b
        simp [List.filter, this, hz.1]
      · have : t x = false := h1 ▸ b
        simp [List.filter, this]
  · have h := i.1
    rw [List.length_map, List.take_length] at h
    rw [h]
    exact hq ρ i.2
theorem W_dcL {Q : List (D × D) × Rho → Prop} : ∀ (ds : List D) (I : Nat → List (D × D) → Rho → Prop) (k0 : Nat) (acc : List (D × D)) (ρ : Rho), acc.length ≤ k0 → k0 + ds.length < sizeLine → I k0 acc ρ →
    (∀ k d acc ρ, ds[k]? = some d → I (k0 + k) acc ρ → Wp (g d ρ) fun ρ1 => Wp (mt ρ1) fun r => bcs r.1 (Wp (mk r.2) fun kd => Wp (mv kd.2) fun y => Wp (keyD kd.1) fun key => I (k0 + k + 1) (gPut.dput acc key y.1) (wipeR y.2 vs)) (I (k0 + k + 1) acc (wipeR r.2 vs))) →
    (∀ acc ρ, acc.length ≤ k0 + ds.length → I (k0 + ds.length) acc ρ → Q (acc, ρ)) → Wp (dcL g mt mk mv vs ds acc ρ) Q
  | [], I, k0, acc, ρ, hl, hz, h0, hs, hq => W_some.mpr (hq acc ρ hl h0)
  | d :: r, I, k0, acc, ρ, hl, hz, h0, hs, hq => by
    have h := hs 0 d acc ρ rfl h0
    rw [List.length_cons] at hz
    have ih : ∀ acc ρ, acc.length ≤ k0 + 1 → I (k0 + 1) acc ρ → Wp (dcL g mt mk mv vs r acc ρ) Q := fun acc ρ hl h => W_dcL r I (k0 + 1) acc ρ hl (by omega) h (fun k d acc ρ e i => by
      have := hs (k + 1) d acc ρ (by simpa using e) (by rw [show k0 + (k + 1) = k0 + 1 + k by omega]; exact i)
      rw [show k0 + (k + 1) + 1 = k0 + 1 + k + 1 by omega] at this
      exact this) (fun acc ρ hl h => hq acc ρ (by rw [List.length_cons]; omega) (by rw [List.length_cons, show k0 + (r.length + 1) = k0 + 1 + r.length by omega]; exact h))
    unfold dcL
    obtain ⟨ρ1, e1, ⟨b, ρ2⟩, e2, h⟩ := h
    rw [e1]
    simp only [e2]
    cases b with
    | true =>
      obtain ⟨⟨kd, ρk⟩, e3, ⟨y, ρ3⟩, e4, key, e5, h⟩ := h.1 rfl
      simp only at e4 e5
      simp only [e3, e4, e5]
      rw [if_pos (by omega)]
      refine ih _ _ ?_ h
      unfold gPut.dput
      split
      · simp; omega
      · simp; omega
    | false =>
      exact ih _ _ (by omega) (h.2 rfl)
theorem W_dcK {Q : List (D × D) × Rho → Prop} {ds : List D} {ρ : Rho} (I : Nat → List (D × D) → Rho → Prop) (hz : ds.length < sizeLine) (h0 : I 0 [] ρ)
    (hs : ∀ k d acc ρ, ds[k]? = some d → I k acc ρ → Wp (g d ρ) fun ρ1 => Wp (mt ρ1) fun r => bcs r.1 (Wp (mk r.2) fun kd => Wp (mv kd.2) fun y => Wp (keyD kd.1) fun key => I (k + 1) (gPut.dput acc key y.1) (wipeR y.2 vs)) (I (k + 1) acc (wipeR r.2 vs)))
    (hq : ∀ acc ρ, acc.length ≤ ds.length → I ds.length acc ρ → Q (acc, ρ)) : Wp (dcL g mt mk mv vs ds [] ρ) Q :=
  W_dcL ds I 0 [] ρ (Nat.le_refl _) (by omega) h0 (fun k d acc ρ e i => by rw [Nat.zero_add] at *; exact hs k d acc ρ e i) (fun acc ρ hl i => by rw [Nat.zero_add] at *; exact hq acc ρ hl i)
end
theorem W_atI {ds : List D} {i : Int} {Q : D → Prop} (h0 : 0 ≤ i) (h1 : i < ds.length) (hq : ∀ d, ds[i.toNat]? = some d → Q d) : Wp (atI ds i) Q := by
  unfold atI ixN
  rw [if_pos h0, if_pos h1]
  have h : i.toNat < ds.length := by omega
  exact ⟨ds[i.toNat], by simp [h], hq _ (by simp [h])⟩
theorem W_atM {α : Type} {xs : List α} {e : α → D} {i : Int} {Q : D → Prop} (h0 : 0 ≤ i) (h1 : i < xs.length) (hq : ∀ x, xs[i.toNat]? = some x → Q (e x)) : Wp (atI (xs.map e) i) Q := by
  refine W_atI h0 (by simpa using h1) fun d q => ?_
  rw [List.getElem?_map] at q
  cases hx : xs[i.toNat]? with
  | none => rw [hx] at q; cases q
  | some x => rw [hx] at q; cases q; exact hq x hx
theorem W_atL {α : Type} {xs : List α} {e : α → D} {i : Int} {Q : D → Prop} (h0 : i < 0) (h1 : -(xs.length : Int) ≤ i) (hq : ∀ x, xs[(i + xs.length).toNat]? = some x → Q (e x)) : Wp (atI (xs.map e) i) Q := by
  unfold atI ixN
  rw [if_neg (by omega), if_pos (by simpa using h1)]
  have h : (i + xs.length).toNat < xs.length := by omega
  exact ⟨e xs[(i + xs.length).toNat], by simp [h], hq _ (by simp [h])⟩
def slotD : Option (Bool × D) → D
  | some (_, d) => d
  | none => .none
def backRl : Nat → Rho → List D
  | 0, _ => []
  | n + 1, x :: r => slotD x :: backRl n r
  | n + 1, [] => .none :: backRl n []
theorem backRl_get : ∀ (n : Nat) (ρ : Rho), (backRl n ρ).length = n ∧ ∀ j, j < n → (backRl n ρ)[j]? = some (match ρ[j]? with | some (some (_, d)) => d | _ => .none)
  | 0, ρ => ⟨rfl, fun j h => absurd h (Nat.not_lt_zero _)⟩
  | n + 1, x :: r => ⟨congrArg (· + 1) (backRl_get n r).1, fun j h => by
    cases j with
    | zero =>
      match x with
      | none => rfl
      | some (b, d) => rfl
    | succ j => simpa [backRl] using (backRl_get n r).2 j (by omega)⟩
  | n + 1, [] => ⟨congrArg (· + 1) (backRl_get n []).1, fun j h => by
    cases j with
    | zero => rfl
    | succ j => simpa [backRl] using (backRl_get n []).2 j (by omega)⟩
theorem backR_eq {ρ : Rho} {n : Nat} : backR ρ n = backRl n ρ := by
  apply List.ext_getElem?
  intro j
  by_cases h : j < n
  · rw [(backRl_get n ρ).2 j h]
    unfold backR
    rw [List.getElem?_map, List.getElem?_range h]
    rfl
  · rw [List.getElem?_eq_none (l := backR ρ n) (by unfold backR; rw [List.length_map, List.length_range]; omega), List.getElem?_eq_none (by rw [(backRl_get n ρ).1]; omega)]
theorem slotD_some {b : Bool} {d : D} : slotD (some (b, d)) = d := rfl
theorem slotD_none : slotD none = .none := rfl
end PD
set_option Elab.async false
set_option linter.all false
set_option maxRecDepth 100000
set_option maxHeartbeats 2000000
namespace PD
open PySem PySem.Spec PyProof.Rows L2 GxR GenX OwnK
def Wq {α β : Type} (o : Option (α × β)) (K : α → β → Prop) [Tg K] : Prop := Wp o fun r => K r.1 r.2
def rQ (n : Nat) (K : D → List D → Prop) [Tg K] : Out → Prop := runQ n fun r => K r.1 r.2
def rQN (n : Nat) (K : D → List D → Prop) [Tg K] : Out → Prop := runQN n fun r => K r.1 r.2
def list2Q (K : D → D → Prop) [Tg K] : List D → Prop
  | [a, b] => K a b
  | _ => False
section
variable {α β : Type} {ρ : Rho}
theorem Wq.mono {o : Option (α × β)} {K K' : α → β → Prop} (h : Wq o K) (k : ∀ a b, K a b → K' a b) : Wq o K' := Wp.mono h fun r z => k _ _ z
theorem q_some {K : α → β → Prop} {a : α} {b : β} : Wq (some (a, b)) K ↔ K a b := W_some
theorem q_none {K : α → β → Prop} : Wq (none : Option (α × β)) K ↔ False := W_none
theorem q_ite {K : α → β → Prop} {c : Prop} [Decidable c] {a b : Option (α × β)} : Wq (if c then a else b) K ↔ (c → Wq a K) ∧ (¬ c → Wq b K) := W_ite
theorem rQ_nx {n : Nat} {K : D → List D → Prop} : rQ n K (.nx ρ) ↔ K .none (backR ρ n) := Iff.rfl
theorem rQ_rt {n : Nat} {K : D → List D → Prop} {d : D} : rQ n K (.rt d ρ) ↔ K d (backR ρ n) := Iff.rfl
theorem rQN_rt {n : Nat} {K : D → List D → Prop} {d : D} : rQN n K (.rt d ρ) ↔ K d (backR ρ n) := Iff.rfl
theorem list2Q_eq {K : D → D → Prop} {a b : D} : list2Q K [a, b] ↔ K a b := Iff.rfl
end
section
variable {K : D → Rho → Prop} {KB : Bool → Rho → Prop} {KL : List D → Rho → Prop} {QS : Out → Prop} {KO : Option Int → Rho → Prop} {ρ : Rho}
theorem q_runD {n : Nat} {io : List Nat} {mb : MS} {ds : List D} {K : D → List D → Prop} : Wq (runD n io mb ds) K ↔ Wp (mb (startR io n ds)) (rQ ds.length K) := W_runD
theorem q_runN {n : Nat} {io : List Nat} {mb : MS} {ds : List D} {K : D → List D → Prop} : Wq (runN n io mb ds) K ↔ Wp (mb (startR io n ds)) (rQN ds.length K) := W_runN
theorem q_bin {g : D → D → Option D} {m1 m2 : M D} : Wq (mBin g m1 m2 ρ) K ↔ Wq (m1 ρ) fun d1 ρ1 => Wq (m2 ρ1) fun d2 ρ2 => Wp (g d1 d2) fun d => K d ρ2 := W_bin
theorem q_nil : Wq (mNil ρ) KL ↔ KL [] ρ := W_nil
theorem q_cons {m : M D} {ms : M (List D)} : Wq (mCons m ms ρ) KL ↔ Wq (m ρ) fun d ρ1 => Wq (ms ρ1) fun ds ρ2 => KL (d :: ds) ρ2 := W_cons
theorem q_app {g : List D → Option D} {m : M (List D)} : Wq (mApp g m ρ) K ↔ Wq (m ρ) fun ds ρ1 => Wp (g ds) fun d => K d ρ1 := W_app
theorem q_un {g : D → Option D} {m : M D} : Wq (mUn g m ρ) K ↔ Wq (m ρ) fun d ρ1 => Wp (g d) fun d => K d ρ1 := W_un
theorem q_mB {m : M D} : Wq (mB m ρ) KB ↔ Wq (m ρ) fun d ρ1 => boolQ (fun b => KB b ρ1) d := W_mB
theorem q_andT {m1 m2 : M Bool} : Wq (mAndT m1 m2 ρ) KB ↔ Wq (m1 ρ) fun b ρ1 => bcs b (Wq (m2 ρ1) KB) (KB false ρ1) := W_andT
theorem q_orT {m1 m2 : M Bool} : Wq (mOrT m1 m2 ρ) KB ↔ Wq (m1 ρ) fun b ρ1 => bcs b (KB true ρ1) (Wq (m2 ρ1) KB) := W_orT
theorem q_notT {m1 : M Bool} : Wq (mNotT m1 ρ) KB ↔ Wq (m1 ρ) fun b ρ1 => KB (!b) ρ1 := W_notT
theorem q_andV {m1 m2 : M D} : Wq (mAndV m1 m2 ρ) K ↔ Wq (m1 ρ) fun d ρ1 => boolQ (fun b => bcs b (Wq (m2 ρ1) K) (K (.bool false) ρ1)) d := W_andV
theorem q_orV {m1 m2 : M D} : Wq (mOrV m1 m2 ρ) K ↔ Wq (m1 ρ) fun d ρ1 => boolQ (fun b => bcs b (K (.bool true) ρ1) (Wq (m2 ρ1) K)) d := W_orV
theorem q_notV {m1 : M D} : Wq (mNotV m1 ρ) K ↔ Wq (m1 ρ) fun d ρ1 => boolQ (fun b => K (.bool (!b)) ρ1) d := W_notV
theorem q_if {c : M Bool} {m1 m2 : M D} : Wq (mIf c m1 m2 ρ) K ↔ Wq (c ρ) fun b ρ1 => bcs b (Wq (m1 ρ1) K) (Wq (m2 ρ1) K) := W_if
theorem q_mP {m : M D} : Wq (mP m ρ) KO ↔ Wq (m ρ) fun d ρ1 => intQ (fun i => KO (some i) ρ1) d := W_mP
theorem q_noP : Wq (mNoP ρ) KO ↔ KO none ρ := W_noP
theorem q_sl {m : M D} {ml mh : M (Option Int)} : Wq (mSl m ml mh ρ) K ↔ Wq (m ρ) fun d ρ1 => Wq (ml ρ1) fun l ρ2 => Wq (mh ρ2) fun h ρ3 => Wp (gSl l h d) fun d => K d ρ3 := W_sl
theorem q_items {m : M D} : Wq (mItems m ρ) KL ↔ Wq (m ρ) fun d ρ1 => Wp (gItems d) fun ds => KL ds ρ1 := W_items
theorem q_range {g : List D → Option (List D)} {m : M (List D)} : Wq (mRange g m ρ) KL ↔ Wq (m ρ) fun ds ρ1 => Wp (g ds) fun es => KL es ρ1 := W_range
theorem q_chain {g g' : D → D → Option D} {ma mb mc : M D} : Wq (mChain g g' ma mb mc ρ) K ↔ Wq (ma ρ) fun a ρ1 => Wq (mb ρ1) fun b ρ2 => Wp (g a b) fun t => boolQ (fun z => bcs z (Wq (mc ρ2) fun c ρ3 => Wp (g' b c) fun d => K d ρ3) (K (.bool false) ρ2)) t := W_chain
theorem q_ret {m : M D} : Wp (mRet m ρ) QS ↔ Wq (m ρ) fun d ρ1 => QS (.rt d ρ1) := W_ret
theorem q_drop {m : M D} : Wp (mDrop m ρ) QS ↔ Wq (m ρ) fun d ρ1 => QS (.nx ρ1) := W_drop
theorem q_ifS {c : M Bool} {m1 m2 : MS} : Wp (mIfS c m1 m2 ρ) QS ↔ Wq (c ρ) fun b ρ1 => bcs b (Wp (m1 ρ1) QS) (Wp (m2 ρ1) QS) := W_ifS
theorem q_asg {m : M D} {g : D → Rho → Option Rho} : Wp (mAsg m g ρ) QS ↔ Wq (m ρ) fun d ρ1 => Wp (g d ρ1) fun ρ2 => QS (.nx ρ2) := W_asg
theorem q_par {i j : Nat} {m : M (List D)} : Wp (mPar i j m ρ) QS ↔ Wq (m ρ) fun ds ρ1 => list2Q (fun a b => i < ρ1.length ∧ j < ρ1.length ∧ QS (.nx ((ρ1.set i (some (false, a))).set j (some (false, b))))) ds := W_par.trans <| by
  unfold Wq
  constructor
  · exact fun h => h.mono fun r ⟨a, b, e, h⟩ => by rw [e]; exact h
  · refine fun h => h.mono fun r h => ?_
    obtain ⟨ds, ρ1⟩ := r
    match ds, h with
    | [a, b], h => exact ⟨a, b, rfl, h⟩
theorem q_put {i : Nat} {mk mv : M D} : Wp (mPut i mk mv ρ) QS ↔ Wq (mv ρ) fun v ρ1 => ownQ (fun o => Wq (mk ρ1) fun k ρ2 => Wp (gPut o k v) fun o' => QS (.nx (ρ2.set i (some (true, o'))))) (ρ1[i]?) := W_put
theorem q_aug {i : Nat} {g : D → D → Option D} {m : M D} : Wp (mAug i g m ρ) QS ↔ borQ (fun x => Wq (m ρ) fun r ρ1 => Wp (g x r) fun d => i < ρ1.length ∧ QS (.nx (ρ1.set i (some (false, d))))) (ρ[i]?) := W_aug
theorem q_augL {i : Nat} {g : D → D → Option D} {mk me : M D} : Wp (mAugL i g mk me ρ) QS ↔ ownQ (fun o => Wq (mk ρ) fun k ρ1 => Wp (gIxL o k) fun x => Wq (me ρ1) fun r ρ2 => Wp (g x r) fun d => Wp (gPut o k d) fun o' => QS (.nx (ρ2.set i (some (true, o'))))) (ρ[i]?) := W_augL
theorem q_mut {i : Nat} {g : D → D → Option (D × D)} {m : M D} : Wq (mMut i g m ρ) K ↔ ownQ (fun o => Wq (m ρ) fun r ρ1 => Wq (g o r) fun z o' => K z (ρ1.set i (some (true, o')))) (ρ[i]?) := W_mut
theorem q_call {f : List D → Option (D × List D)} {ts : List (Option Nat)} {m : M (List D)} : Wq (mCall f ts m ρ) K ↔ Wq (m ρ) fun ds ρ1 => Wq (f ds) fun d es => es.length = ds.length ∧ K d (putBack ts es ρ1) := W_call
theorem q_callK {f : List D → Option (D × List D)} {ga : List D → List D} {m : M (List D)} : Wq (mCallK f ga m ρ) K ↔ Wq (m ρ) fun ds ρ1 => Wq (f (ga ds)) fun d es => K d ρ1 := W_callK
theorem q_tab {tbl : List (Str × (List D → Option (D × List D)))} {ts : List (Option Nat)} {mk : M D} {m : M (List D)} : Wq (mTab tbl ts mk m ρ) K ↔ Wq (mk ρ) fun k ρ1 => strQ (fun z => Wp (tbl.lookup z) fun fn => Wq (mCall fn ts m ρ1) K) k := W_tab
theorem q_consIo {i : Nat} {ms : M (List D)} : Wq (mConsIo i ms ρ) KL ↔ ownQ (fun _ => Wq (ms ρ) fun ds ρ1 => ownQ (fun d => KL (d :: ds) ρ1) (ρ1[i]?)) (ρ[i]?) := W_consIo
theorem q_get2 {m1 m2 m3 : M D} : Wq (mGet2 m1 m2 m3 ρ) K ↔ Wq (m1 ρ) fun a ρ1 => dictQ (fun kvs => Wq (m2 ρ1) fun b ρ2 => Wq (m3 ρ2) fun c ρ3 => Wp (keyD b) fun k => isT kvs = false ∧ K ((dget kvs k).getD c) ρ3) a := W_get2
theorem q_for {mi : M (List D)} {g : D → Rho → Option Rho} {mb : MS} : Wp (mFor mi g mb ρ) QS ↔ Wq (mi ρ) fun ds ρ1 => Wp (mForL g mb ds ρ1) QS := W_for
theorem q_lc {mi : M (List D)} {g : D → Rho → Option Rho} {mt : M Bool} {me : M D} {vs : List Nat} : Wq (mLc mi g mt me vs ρ) K ↔ Wq (mi ρ) fun ds ρ1 => Wq (lcL g mt me vs ds [] (wipeR ρ1 vs)) fun s ρ2 => K (.list s) (wipeR ρ2 vs) := W_lc
theorem q_dc {mi : M (List D)} {g : D → Rho → Option Rho} {mt : M Bool} {mk mv : M D} {vs : List Nat} : Wq (mDc mi g mt mk mv vs ρ) K ↔ Wq (mi ρ) fun ds ρ1 => Wq (dcL g mt mk mv vs ds [] (wipeR ρ1 vs)) fun s ρ2 => K (.dict s) (wipeR ρ2 vs) := W_dc
theorem q_an {k : Bool} {mi : M (List D)} {g : D → Rho → Option Rho} {mt : M Bool} {me : M D} {vs : List Nat} : Wq (mAn k mi g mt me vs ρ) K ↔ Wq (mi ρ) fun ds ρ1 => Wq (anL k g mt me vs ds (wipeR ρ1 vs)) fun s ρ2 => K (.bool s) (wipeR ρ2 vs) := W_an
theorem q_su {mi : M (List D)} {g : D → Rho → Option Rho} {mt : M Bool} {me : M D} {vs : List Nat} : Wq (mSu mi g mt me vs ρ) K ↔ Wq (mi ρ) fun ds ρ1 => Wq (suL g mt me vs ds 0 (wipeR ρ1 vs)) fun s ρ2 => K (.int s) (wipeR ρ2 vs) := W_su
theorem q_mC {d : D} : Wq (mC d ρ) K ↔ K d ρ := W_some
end
section
variable {g : D → Rho → Option Rho} {mb : MS} {mt : M Bool} {me mk mv : M D} {vs : List Nat}
theorem q_lcK {K : List D → Rho → Prop} {ds : List D} {ρ : Rho} (I : Nat → List D → Rho → Prop) (hz : ds.length < 16777216) (h0 : I 0 [] ρ)
    (hs : ∀ k d acc ρ, ds[k]? = some d → I k acc ρ → Wp (g d ρ) fun ρ1 => Wq (mt ρ1) fun b ρ2 => bcs b (Wq (me ρ2) fun y ρ3 => I (k + 1) (acc ++ [y]) (wipeR ρ3 vs)) (I (k + 1) acc (wipeR ρ2 vs)))
    (hq : ∀ acc ρ, acc.length ≤ ds.length → I ds.length acc ρ → K acc ρ) : Wq (lcL g mt me vs ds [] ρ) K := W_lcK I (by unfold sizeLine; omega) h0 hs hq
theorem filter_yes {α : Type} : ∀ (xs : List α), xs.filter (fun _ => true) = xs
  | [] => rfl
  | x :: r => by rw [List.filter_cons_of_pos rfl, filter_yes r]
theorem q_lcM {α : Type} {K : List D → Rho → Prop} (xs : List α) (e : α → D) (J : Rho → Prop) (t : α → Bool) (y : α → D) {ρ : Rho} (hz : xs.length < 16777216) (h0 : J ρ)
    (hs : ∀ x ∈ xs, ∀ ρ, J ρ → Wp (g (e x) ρ) fun ρ1 => Wq (mt ρ1) fun b ρ2 => b = t x ∧ (t x = true → Wq (me ρ2) fun z ρ3 => z = y x ∧ J (wipeR ρ3 vs)) ∧ (t x = false → J (wipeR ρ2 vs)))
    (hq : ∀ ρ, J ρ → K ((xs.filter t).map y) ρ) : Wq (lcL g mt me vs (xs.map e) [] ρ) K := W_lcM xs e J t y (by unfold sizeLine; omega) h0 hs hq
theorem q_lcA {α : Type} {K : List D → Rho → Prop} (xs : List α) (e : α → D) (J : Rho → Prop) (y : α → D) {ρ : Rho} (hz : xs.length < 16777216) (h0 : J ρ)
    (hs : ∀ x ∈ xs, ∀ ρ, J ρ → Wp (g (e x) ρ) fun ρ1 => Wq (me ρ1) fun z ρ3 => z = y x ∧ J (wipeR ρ3 vs))
    (hq : ∀ ρ, J ρ → K (xs.map y) ρ) : Wq (lcL g mYes me vs (xs.map e) [] ρ) K :=
  q_lcM xs e J (fun _ => true) y hz h0 (fun x hx ρ hρ => (hs x hx ρ hρ).mono fun ρ1 h => q_some.mpr ⟨rfl, fun _ => h, fun z => nomatch z⟩) fun ρ hρ => by rw [filter_yes]; exact hq ρ hρ
theorem q_lcE {α β : Type} {K : List D → Rho → Prop} (xs : List α) (e : α → D) (J : Rho → Prop) (y : β → D) (P : α → β → Prop) {ρ : Rho} (hz : xs.length < 16777216) (h0 : J ρ)
    (hs : ∀ x ∈ xs, ∀ ρ, J ρ → Wp (g (e x) ρ) fun ρ1 => Wq (me ρ1) fun z ρ2 => (∃ b, z = y b ∧ P x b) ∧ J (wipeR ρ2 vs))
    (hq : ∀ (bs : List β) ρ, bs.length = xs.length → (∀ (i : Nat) x b, xs[i]? = some x → bs[i]? = some b → P x b) → J ρ → K (bs.map y) ρ) : Wq (lcL g mYes me vs (xs.map e) [] ρ) K := by
  refine q_lcK (fun k acc ρ => ∃ bs : List β, acc = bs.map y ∧ bs.length = k ∧ (∀ (i : Nat) x b, xs[i]? = some x → bs[i]? = some b → P x b) ∧ J ρ) (by simpa using hz) ⟨[], rfl, rfl, fun i x b _ z => by simp at z, h0⟩ (fun k d acc ρ q ⟨bs, e1, e2, e3, e4⟩ => ?_) (fun acc ρ _ ⟨bs, e1, e2, e3, e4⟩ => by
    subst e1; exact hq bs ρ (by simpa using e2) e3 e4)
  rw [List.getElem?_map] at q
  cases hx : xs[k]? with
  | none => rw [hx] at q; cases q
  | some x =>
    rw [hx] at q
    cases q
    refine (hs x (List.mem_of_getElem? hx) ρ e4).mono fun ρ1 h => q_some.mpr (bcs_true.mpr (h.mono fun z ρ2 ⟨⟨b, hb, hp⟩, hj⟩ => ⟨bs ++ [b], by rw [e1, hb]; simp, by simp [e2], fun i x' b' h1 h2 => ?_, hj⟩))
    rcases Nat.lt_trichotomy i k with hi | hi | hi
    · exact e3 i x' b' h1 (by rwa [List.getElem?_append_left (by omega)] at h2)
    · subst hi
      rw [List.getElem?_append_right (by omega), e2, Nat.sub_self] at h2
      rw [hx] at h1
      cases h1
      cases h2
      exact hp
    · rw [List.getElem?_eq_none (by simp; omega)] at h2; cases h2
theorem q_dcK {K : List (D × D) → Rho → Prop} {ds : List D} {ρ : Rho} (I : Nat → List (D × D) → Rho → Prop) (hz : ds.length < 16777216) (h0 : I 0 [] ρ)
    (hs : ∀ k d acc ρ, ds[k]? = some d → I k acc ρ → Wp (g d ρ) fun ρ1 => Wq (mt ρ1) fun b ρ2 => bcs b (Wq (mk ρ2) fun kd ρ3 => Wq (mv ρ3) fun y ρ4 => Wp (keyD kd) fun key => I (k + 1) (gPut.dput acc key y) (wipeR ρ4 vs)) (I (k + 1) acc (wipeR ρ2 vs)))
    (hq : ∀ acc ρ, acc.length ≤ ds.length → I ds.length acc ρ → K acc ρ) : Wq (dcL g mt mk mv vs ds [] ρ) K := W_dcK I (by unfold sizeLine; omega) h0 hs hq
end
end PD
set_option Elab.async false
set_option linter.all false
set_option maxRecDepth 100000
set_option maxHeartbeats 2000000
namespace PD
open PySem PySem.Spec PyProof.Rows L2 GxR GenX OwnK
theorem gAdd_ii (a b : Int) : gAdd (.int a) (.int b) = some (.int (a + b)) := rfl
theorem gSub_ii (a b : Int) : gSub (.int a) (.int b) = some (.int (a - b)) := rfl
theorem gLen_l (ds : List D) : gLen [.list ds] = some (.int ds.length) := rfl
theorem gLen_t (ds : List D) : gLen [.tuple ds] = some (.int ds.length) := rfl
theorem isT_map {α : Type} {f : α → D × D} (h : ∀ x, isT [f x] = false) (l : List α) : isT (l.map f) = false := by
  cases l with
  | nil => rfl
  | cons x r =>
    have := h x
    rw [List.map_cons]
    generalize f x = p at *
    obtain ⟨k, d⟩ := p
    cases k <;> first | rfl | cases this
theorem gLen_d (ds : List (D × D)) : gLen [.dict ds] = if isT ds then none else some (.int ds.length) := rfl
theorem gSl_l (lo hi : Option Int) (ds : List D) : gSl lo hi (.list ds) = some (.list (cutD ds lo hi)) := rfl
theorem gSl_t (lo hi : Option Int) (ds : List D) : gSl lo hi (.tuple ds) = some (.tuple (cutD ds lo hi)) := rfl
theorem gIx_l (ds : List D) (i : Int) : gIx (.list ds) (.int i) = atI ds i := rfl
theorem gIx_t (ds : List D) (i : Int) : gIx (.tuple ds) (.int i) = atI ds i := rfl
theorem gIx_di (ds : List (D × D)) (i : Int) : gIx (.dict ds) (.int i) = dget ds (.inl i) := rfl
theorem gIx_ds (ds : List (D × D)) (i : Str) : gIx (.dict ds) (.str i) = dget ds (.inr i) := rfl
theorem gItems_l (ds : List D) : gItems (.list ds) = some ds := rfl
theorem gItems_t (ds : List D) : gItems (.tuple ds) = some ds := rfl
theorem keyD_i (i : Int) : keyD (.int i) = some (.inl i) := rfl
theorem keyD_s (i : Str) : keyD (.str i) = some (.inr i) := rfl
theorem gEq_ii (a b : Int) : gEq (.int a) (.int b) = some (.bool (decide (a = b))) := rfl
theorem gNe_ii (a b : Int) : gNe (.int a) (.int b) = some (.bool (!decide (a = b))) := rfl
theorem gEq_ss {a b : Str} (ha : PyData.strOk a = true) (hb : PyData.strOk b = true) : gEq (.str a) (.str b) = some (.bool (decide (a = b))) := by
  unfold gEq okE SeqAt.shaped
  simp [noD, PyData.canLay0, ha, hb, PyData.depth, PyData.eqv]
  rfl
theorem gMul_s0 (a : Str) : gMul (.str a) (.int 0) = some (.str Str.empty) := rfl
theorem gMul_s1 (a : Str) : gMul (.str a) (.int 1) = some (.str a) := rfl
theorem gMul_r {a b : Int} (h1 : -18446744073709551616 < b) (h2 : b < 18446744073709551616) : gMul (.int a) (.int b) = some (.int (a * b)) := by
  exact if_pos (show CMul a b from .inr ⟨h1, h2⟩)
theorem gMul_l {a b : Int} (h1 : -18446744073709551616 < a) (h2 : a < 18446744073709551616) : gMul (.int a) (.int b) = some (.int (a * b)) := by
  exact if_pos (show CMul a b from .inl ⟨h1, h2⟩)
theorem gMod_p {a b : Int} (h : 0 < b) : gMod (.int a) (.int b) = some (.int (a.fmod b)) := by
  exact if_pos (show b ≠ 0 by omega)
theorem gDiv_p {a b : Int} (h : 0 < b) (h2 : b < 1073741824) : gDiv (.int a) (.int b) = some (.int (a.fdiv b)) := by
  exact if_pos (show CDivN a b from ⟨by omega, by omega⟩)
theorem gPow_l {a b : Int} (h : CPow a b) : gPow (.int a) (.int b) = some (.int (a ^ b.toNat)) := by
  exact if_pos h
theorem gPow_1018 : gPow (.int 10) (.int 18) = some (.int 1000000000000000000) := by rw [gPow_l ⟨by decide, by decide, by decide⟩]; rfl
section
variable {a b c d e f g h x : D} {r : List D}
theorem atI_0 : atI (a :: r) 0 = some a := by
  unfold atI ixN; rw [if_pos (by decide), if_pos (by simp only [List.length_cons]; omega)]; rfl
theorem atI_1 : atI (a :: b :: r) 1 = some b := by
  unfold atI ixN; rw [if_pos (by decide), if_pos (by simp only [List.length_cons]; omega)]; rfl
theorem atI_2 : atI (a :: b :: c :: r) 2 = some c := by
  unfold atI ixN; rw [if_pos (by decide), if_pos (by simp only [List.length_cons]; omega)]; rfl
theorem atI_3 : atI (a :: b :: c :: d :: r) 3 = some d := by
  unfold atI ixN; rw [if_pos (by decide), if_pos (by simp only [List.length_cons]; omega)]; rfl
theorem atI_4 : atI (a :: b :: c :: d :: e :: r) 4 = some e := by
  unfold atI ixN; rw [if_pos (by decide), if_pos (by simp only [List.length_cons]; omega)]; rfl
theorem atI_5 : atI (a :: b :: c :: d :: e :: f :: r) 5 = some f := by
  unfold atI ixN; rw [if_pos (by decide), if_pos (by simp only [List.length_cons]; omega)]; rfl
theorem atI_6 : atI (a :: b :: c :: d :: e :: f :: g :: r) 6 = some g := by
  unfold atI ixN; rw [if_pos (by decide), if_pos (by simp only [List.length_cons]; omega)]; rfl
theorem atI_7 : atI (a :: b :: c :: d :: e :: f :: g :: h :: r) 7 = some h := by
  unfold atI ixN; rw [if_pos (by decide), if_pos (by simp only [List.length_cons]; omega)]; rfl
theorem gPutL_0 : gPut (.list (a :: r)) (.int 0) x = some (.list (x :: r)) := by
  show (ixN _ _).map _ = _; unfold ixN; rw [if_pos (by decide), if_pos (by simp only [List.length_cons]; omega)]; rfl
theorem gPutL_1 : gPut (.list (a :: b :: r)) (.int 1) x = some (.list (a :: x :: r)) := by
  show (ixN _ _).map _ = _; unfold ixN; rw [if_pos (by decide), if_pos (by simp only [List.length_cons]; omega)]; rfl
theorem gPutL_2 : gPut (.list (a :: b :: c :: r)) (.int 2) x = some (.list (a :: b :: x :: r)) := by
  show (ixN _ _).map _ = _; unfold ixN; rw [if_pos (by decide), if_pos (by simp only [List.length_cons]; omega)]; rfl
theorem gPutL_3 : gPut (.list (a :: b :: c :: d :: r)) (.int 3) x = some (.list (a :: b :: c :: x :: r)) := by
  show (ixN _ _).map _ = _; unfold ixN; rw [if_pos (by decide), if_pos (by simp only [List.length_cons]; omega)]; rfl
theorem gPutL_4 : gPut (.list (a :: b :: c :: d :: e :: r)) (.int 4) x = some (.list (a :: b :: c :: d :: x :: r)) := by
  show (ixN _ _).map _ = _; unfold ixN; rw [if_pos (by decide), if_pos (by simp only [List.length_cons]; omega)]; rfl
theorem gPutL_5 : gPut (.list (a :: b :: c :: d :: e :: f :: r)) (.int 5) x = some (.list (a :: b :: c :: d :: e :: x :: r)) := by
  show (ixN _ _).map _ = _; unfold ixN; rw [if_pos (by decide), if_pos (by simp only [List.length_cons]; omega)]; rfl
theorem gPutD {kvs : List (D × D)} {i : Int} (h : kvs.length < 16777216) (hT : isT kvs = false := by first | rfl | assumption | exact isT_map (fun _ => rfl) _) : gPut (.dict kvs) (.int i) x = some (.dict (gPut.dput kvs (.inl i) x)) := if_pos ⟨hT, (show kvs.length < sizeLine by unfold sizeLine; omega)⟩
theorem gPutDs {kvs : List (D × D)} {i : Str} (h : kvs.length < 16777216) (hT : isT kvs = false := by first | rfl | assumption | exact isT_map (fun _ => rfl) _) : gPut (.dict kvs) (.str i) x = some (.dict (gPut.dput kvs (.inr i) x)) := if_pos ⟨hT, (show kvs.length < sizeLine by unfold sizeLine; omega)⟩
end
section
variable {Q : D → Prop}
theorem w_mul {a b : Int} (h : (-18446744073709551616 < a ∧ a < 18446744073709551616) ∨ (-18446744073709551616 < b ∧ b < 18446744073709551616)) (q : Q (.int (a * b))) : Wp (gMul (.int a) (.int b)) Q := by
  rcases h with h | h
  · rw [gMul_l h.1 h.2]; exact W_some.mpr q
  · rw [gMul_r h.1 h.2]; exact W_some.mpr q
theorem w_mod {a b : Int} (h : 0 < b) (q : 0 ≤ a.fmod b → a.fmod b < b → Q (.int (a.fmod b))) : Wp (gMod (.int a) (.int b)) Q := by
  rw [gMod_p h]; exact W_some.mpr (q (Int.fmod_nonneg_of_pos a h) (Int.fmod_lt_of_pos a h))
theorem w_div {a b : Int} (h : 0 < b) (h2 : b < 1073741824) (q : Q (.int (a.fdiv b))) : Wp (gDiv (.int a) (.int b)) Q := by
  rw [gDiv_p h h2]; exact W_some.mpr q
theorem wr1 {n : Int} {QL : List D → Prop} (h : n < 4611686018427387904) (h0 : -4611686018427387904 ≤ n) (q : QL (rangeD 0 n.toNat)) : Wp (gRange1 [.int n]) QL := by
  exact ⟨_, if_pos (by omega), q⟩
theorem wr2 {a b : Int} {QL : List D → Prop} (h : -4611686018427387904 ≤ a ∧ a < 4611686018427387904 ∧ -4611686018427387904 ≤ b ∧ b < 4611686018427387904) (q : QL (rangeD a (b - a).toNat)) : Wp (gRange2 [.int a, .int b]) QL := by
  exact ⟨_, if_pos (by omega), q⟩
theorem w_gLst {ds : List D} (h : ds.length ≤ 16777216) (q : Q (.list ds)) : Wp (gLstD ds) Q := by
  exact ⟨_, if_pos (by unfold sizeLine; omega), q⟩
theorem w_gTup {ds : List D} (h : ds.length ≤ 16777216) (q : Q (.tuple ds)) : Wp (gTupD ds) Q := by
  exact ⟨_, if_pos (by unfold sizeLine; omega), q⟩
theorem w_app {ds : List D} {d : D} {QD : D → D → Prop} (h : ds.length < 16777216) (q : QD .none (.list (ds ++ [d]))) : Wq (gApp (.list ds) d) QD := by
  exact ⟨_, if_pos (by unfold sizeLine; omega), q⟩
theorem w_addL {a b : List D} (h : a.length + b.length ≤ 16777216) (q : Q (.list (a ++ b))) : Wp (gAdd (.list a) (.list b)) Q := by
  exact ⟨_, if_pos (by unfold sizeLine; omega), q⟩
theorem w_addT {a b : List D} (h : a.length + b.length ≤ 16777216) (q : Q (.tuple (a ++ b))) : Wp (gAdd (.tuple a) (.tuple b)) Q := by
  exact ⟨_, if_pos (by unfold sizeLine; omega), q⟩
theorem w_addS {a b : Str} (h : a.length + b.length ≤ 16777216) (q : Q (.str (a ++ b))) : Wp (gAdd (.str a) (.str b)) Q := by
  exact ⟨_, if_pos (by unfold sizeLine; omega), q⟩
end
theorem w_putM {α : Type} {xs : List α} {e : α → D} {i : Int} {v : α} {Q : D → Prop} (h0 : 0 ≤ i) (h1 : i < xs.length) (q : Q (.list ((xs.set i.toNat v).map e))) : Wp (gPut (.list (xs.map e)) (.int i) (e v)) Q := by
  refine ⟨_, ?_, q⟩
  show (ixN (xs.map e).length i).map (fun j => PyData.list ((xs.map e).set j (e v))) = _
  unfold ixN
  rw [if_pos h0, if_pos (by simpa using h1), List.map_set]
  rfl
end PD
set_option Elab.async false
set_option linter.all false
set_option maxRecDepth 100000
set_option maxHeartbeats 2000000
namespace PD
open PySem PySem.Spec PyProof.Rows L2 GxR GenX OwnK
def cs (z : Str) : List Nat := z.cps.toList
theorem cs_app (a b : Str) : cs (a ++ b) = cs a ++ cs b := by
  show (a.cps ++ b.cps).toList = _
  rw [Array.toList_append]; rfl
theorem cs_len (a : Str) : (cs a).length = a.length := by show a.cps.toList.length = a.cps.size; simp
theorem len_app (a b : Str) : (a ++ b).length = a.length + b.length := by rw [← cs_len, cs_app, List.length_append, cs_len, cs_len]
theorem len_empty : Str.empty.length = 0 := rfl
theorem len_one (c : Nat) : Str.length ⟨#[c]⟩ = 1 := rfl
section
variable {Q : D → Prop}
theorem w_eqS {a b : Str} (r : Bool) (h : (PyData.strOk a && PyData.strOk b && (decide (a = b) == r)) = true) (q : Q (.bool r)) : Wp (gEq (.str a) (.str b)) Q := by
  simp only [Bool.and_eq_true, beq_iff_eq] at h
  exact ⟨_, gEq_ss h.1.1 h.1.2, h.2 ▸ q⟩
theorem w_eq {α : Type} {o : Option α} {a : α} {Q : α → Prop} (h : o = some a) (q : Q a) : Wp o Q := ⟨a, h, q⟩
theorem w_lookT {β : Type} {a b : Str} {v : β} {r : List (Str × β)} {Q : β → Prop} (h : (a == b) = true) (q : Q v) : Wp (List.lookup a ((b, v) :: r)) Q := ⟨v, by rw [List.lookup_cons, h], q⟩
theorem w_lookF {β : Type} {a b : Str} {v : β} {r : List (Str × β)} {Q : β → Prop} (h : (a == b) = false) (q : Wp (List.lookup a r) Q) : Wp (List.lookup a ((b, v) :: r)) Q := by
  obtain ⟨z, e, q⟩ := q
  exact ⟨z, by rw [List.lookup_cons, h]; exact e, q⟩
theorem allInts_map (ns : List Int) : allInts (ns.map .int) = some ns := by
  induction ns with
  | nil => rfl
  | cons n r ih => show (allInts (r.map .int)).map (n :: ·) = _; rw [ih]; rfl
theorem w_lenSet {ns : List Int} (h : ns.length < 4000) (q : Q (.int (distI ns : Nat))) : Wp (gLenSet (.tuple (ns.map .int))) Q := by
  refine ⟨_, ?_, q⟩
  show (allInts (ns.map .int)).bind _ = _
  rw [allInts_map]
  exact if_pos (show ns.length + 1 < scanBound by unfold scanBound; omega)
theorem w_tcount {ns : List Int} {k : Int} (q : Q (.int (ns.count k : Nat))) : Wp (gTCount (.tuple (ns.map .int)) (.int k)) Q := by
  refine ⟨_, ?_, q⟩
  show (allInts (ns.map .int)).map _ = _
  rw [allInts_map]; rfl
theorem w_sum {ns : List Int} (q : Q (.int ns.sum)) : Wp (gSum [.list (ns.map .int)]) Q := by
  refine ⟨_, ?_, q⟩
  show (allInts (ns.map .int)).map _ = _
  rw [allInts_map]; rfl
theorem w_sorted {ns : List Int} (q : Q (.list ((sortI ns).map .int))) : Wp (gSorted [.list (ns.map .int)]) Q := by
  refine ⟨_, ?_, q⟩
  show (allInts (ns.map .int)).map _ = _
  rw [allInts_map]; rfl
theorem w_slS {z : Str} {lo hi : Option Int} (h : z.length ≤ 16777216) (q : Q (.str (cutS z lo hi))) : Wp (gSl lo hi (.str z)) Q := ⟨_, if_pos (show z.length ≤ sizeLine by unfold sizeLine; omega), q⟩
theorem log2_lt {i : Int} (h0 : -1000000000 < i) (h1 : i < 1000000000) : i.natAbs.log2 < 1920 := by
  by_cases h : i.natAbs = 0
  · rw [h]; decide
  · rw [Nat.log2_lt h]
    exact Nat.lt_of_lt_of_le (show i.natAbs < 2 ^ 30 by omega) (Nat.pow_le_pow_right (by decide) (by decide))
theorem w_str {i : Int} (h0 : -1000000000 < i) (h1 : i < 1000000000) (q : Q (.str (toString i))) : Wp (gStr [.int i]) Q := ⟨_, if_pos (log2_lt h0 h1), q⟩
end
end PD
set_option Elab.async false
set_option linter.all false
set_option maxRecDepth 100000
set_option maxHeartbeats 2000000
namespace PD
open PySem PySem.Spec PyProof.Rows L2 GxR GenX OwnK
section
variable {Q : D → Prop}
theorem w_sortedD {kvs : List (D × D)} {ks : List Int} (h : kvs.map (·.1) = ks.map .int) (h64 : ks.length < 64) (q : Q (.list ((sortI ks).map .int))) : Wp (gSorted [.dict kvs]) Q := by
  refine ⟨_, ?_, q⟩
  show (allInts (kvs.map (·.1))).bind _ = _
  rw [h, allInts_map]
  exact if_pos h64
theorem noDs_str (zs : List Str) : noDs (zs.map .str) = true := by
  induction zs with
  | nil => rfl
  | cons z r ih => show (noD (.str z) && noDs (r.map .str)) = true; rw [ih]; rfl
theorem lay_str {zs : List Str} (h : ∀ z ∈ zs, PyData.strOk z = true) : PyData.canLayAll0 (zs.map .str) = true := by
  induction zs with
  | nil => simp [PyData.canLayAll0]
  | cons z r ih =>
    have h1 := h z List.mem_cons_self
    have h2 := ih fun z hz => h z (List.mem_cons_of_mem _ hz)
    simp [PyData.canLayAll0, PyData.canLay0, h1, h2]
theorem depth_str (zs : List Str) : PyData.depthAll (zs.map .str) = 0 := by
  induction zs with
  | nil => simp [PyData.depthAll]
  | cons z r ih => simp [PyData.depthAll, PyData.depth, ih]
theorem okE_str {z : Str} (h : PyData.strOk z = true) : okE (.str z) = true := by
  unfold okE SeqAt.shaped
  simp [noD, PyData.canLay0, h, PyData.depth]
theorem okE_strs {zs : List Str} (h : ∀ z ∈ zs, PyData.strOk z = true) : okE (.list (zs.map .str)) = true := by
  unfold okE SeqAt.shaped
  simp [noD, PyData.canLay0, lay_str h, PyData.depth, depth_str, noDs_str]
theorem any_str {x : Str} {zs : List Str} : ((zs.map PyData.str).any fun z => PyData.eqv z (.str x)) = decide (x ∈ zs) := by
  rw [Bool.eq_iff_iff, List.any_eq_true, decide_eq_true_eq]
  constructor
  · intro ⟨d, hd, e⟩
    obtain ⟨z, hz, rfl⟩ := List.mem_map.mp hd
    simp only [PyData.eqv, beq_iff_eq] at e
    exact e ▸ hz
  · intro h
    exact ⟨.str x, List.mem_map.mpr ⟨x, h, rfl⟩, by simp [PyData.eqv]⟩
theorem w_inS {x : Str} {zs : List Str} (hx : PyData.strOk x = true) (h : ∀ z ∈ zs, PyData.strOk z = true) (q : Q (.bool (decide (x ∈ zs)))) : Wp (gIn (.str x) (.list (zs.map .str))) Q := by
  refine ⟨_, ?_, q⟩
  show (if (okE (.str x) && okE (.list (zs.map .str))) = true then some ((zs.map PyData.str).any fun z => PyData.eqv z (.str x)) else none).map _ = _
  rw [okE_str hx, okE_strs h, if_pos (show (true && true) = true from rfl), any_str]
  rfl
end
def okM (n : Nat) (d : D) : Prop := noD d = true ∧ d.canLay0 = true ∧ d.depth ≤ n
theorem okM.okE {n : Nat} {d : D} (h : okM n d) (hn : n ≤ 64) : okE d = true := by
  unfold PD.okE SeqAt.shaped
  rw [h.1, h.2.1, decide_eq_true (Nat.le_trans h.2.2 hn)]; rfl
theorem okM.mono {n m : Nat} {d : D} (h : okM n d) (hn : n ≤ m) : okM m d := ⟨h.1, h.2.1, Nat.le_trans h.2.2 hn⟩
theorem okM_int (n : Nat) (i : Int) : okM n (.int i) := ⟨rfl, by simp [PyData.canLay0], by simp [PyData.depth]⟩
theorem okM_bool (n : Nat) (i : Bool) : okM n (.bool i) := ⟨rfl, by simp [PyData.canLay0], by simp [PyData.depth]⟩
theorem okM_str (n : Nat) {z : Str} (h : PyData.strOk z = true) : okM n (.str z) := ⟨rfl, by simp [PyData.canLay0, h], by simp [PyData.depth]⟩
theorem okM_all {n : Nat} : ∀ {ds : List D}, (∀ d ∈ ds, okM n d) → noDs ds = true ∧ PyData.canLayAll0 ds = true ∧ PyData.depthAll ds ≤ n
  | [], _ => ⟨rfl, by simp [PyData.canLayAll0], by simp [PyData.depthAll]⟩
  | d :: r, h => by
    have h1 := h d List.mem_cons_self
    have h2 := okM_all (ds := r) fun e he => h e (List.mem_cons_of_mem _ he)
    refine ⟨?_, by simp [PyData.canLayAll0, h1.2.1, h2.2.1], by simp only [PyData.depthAll]; exact Nat.max_le.mpr ⟨h1.2.2, h2.2.2⟩⟩
    show (noD d && noDs r) = true
    rw [h1.1, h2.1]; rfl
theorem okM_tup {n : Nat} {ds : List D} (h : ∀ d ∈ ds, okM n d) : okM (n + 1) (.tuple ds) := by
  have := okM_all h
  exact ⟨this.1, by simp [PyData.canLay0, this.2.1], by simp [PyData.depth]; exact this.2.2⟩
theorem okM_lst {n : Nat} {ds : List D} (h : ∀ d ∈ ds, okM n d) : okM (n + 1) (.list ds) := by
  have := okM_all h
  exact ⟨this.1, by simp [PyData.canLay0, this.2.1], by simp [PyData.depth]; exact this.2.2⟩
theorem okM_map {α : Type} {n : Nat} {xs : List α} {e : α → D} (h : ∀ x ∈ xs, okM n (e x)) : ∀ d ∈ xs.map e, okM n d := fun d hd => by
  obtain ⟨x, hx, rfl⟩ := List.mem_map.mp hd
  exact h x hx
theorem w_inT {α : Type} {n : Nat} {x : D} {xs : List α} {e : α → D} {Q : D → Prop} (hn : n ≤ 60) (hx : okM n x) (h : ∀ y ∈ xs, okM n (e y)) (q : Q (.bool (xs.any fun y => PyData.eqv (e y) x))) : Wp (gIn x (.tuple (xs.map e))) Q := by
  refine ⟨_, ?_, q⟩
  show (if (okE x && okE (.tuple (xs.map e))) = true then some ((xs.map e).any fun z => PyData.eqv z x) else none).map _ = _
  rw [hx.okE (by omega), (okM_tup (okM_map h)).okE (by omega), if_pos (show (true && true) = true from rfl), List.any_map]
  rfl
def rangeI (lo : Int) (n : Nat) : List Int := (List.range n).map fun i => lo + (i : Nat)
end PD
set_option Elab.async false
set_option linter.all false
set_option maxRecDepth 100000
set_option maxHeartbeats 2000000
namespace PD
open PySem PySem.Spec PyProof.Rows L2 GxR GenX OwnK
section
variable {α β γ : Type} {f : α → D} {g : β → D} {h : γ → D} {xs : List α} {ys : List β} {zs : List γ} {Q : List D → Prop}
theorem zip3_map : ∀ (xs : List α) (ys : List β) (zs : List γ), List.zipWith (fun u (p : D × D) => PyData.tuple [u, p.1, p.2]) (xs.map f) ((ys.map g).zip (zs.map h)) = (xs.zip (ys.zip zs)).map fun p => .tuple [f p.1, g p.2.1, h p.2.2]
  | [], _, _ => rfl
  | _ :: _, [], _ => rfl
  | _ :: _, _ :: _, [] => rfl
  | x :: xs, y :: ys, z :: zs => congrArg (_ :: ·) (zip3_map xs ys zs)
theorem enum_map : List.zipWith (fun (i : Nat) u => PyData.tuple [.int i, u]) (List.range (xs.map f).length) (xs.map f) = ((List.range xs.length).zip xs).map fun p => .tuple [.int (p.1 : Nat), f p.2] := by
  rw [List.length_map, ← List.map_id (List.range xs.length), List.zipWith_map, List.zip, List.map_zipWith, List.map_id]
  rfl
theorem wz3 {a b c : D} (h1 : gItems a = some (xs.map f)) (h2 : gItems b = some (ys.map g)) (h3 : gItems c = some (zs.map h)) (q : Q ((xs.zip (ys.zip zs)).map fun p => .tuple [f p.1, g p.2.1, h p.2.2])) : Wp (gZip [a, b, c]) Q := by
  simp only [gZip, h1, h2, h3, W_some, zip3_map]
  exact q
theorem wen {a : D} (h1 : gItems a = some (xs.map f)) (q : Q (((List.range xs.length).zip xs).map fun p => .tuple [.int (p.1 : Nat), f p.2])) : Wp (gEnum [a]) Q := by
  simp only [gEnum, h1, W_some, enum_map]
  exact q
end
def tup2Q (K : D → D → Prop) [Tg K] : D → Prop
  | .tuple [a, b] => K a b
  | _ => False
theorem tup2Q_eq {K : D → D → Prop} {a b : D} : tup2Q K (.tuple [a, b]) ↔ K a b := Iff.rfl
end PD
set_option Elab.async false
set_option linter.all false
set_option maxRecDepth 100000
set_option maxHeartbeats 2000000
namespace PD
open PySem PySem.Spec PyProof.Rows L2 GxR GenX OwnK
section
variable {ρ : Rho} {QS : Out → Prop} {Q : D → Prop}
theorem q_putT {i : Nat} {mk mv : M D} : Wp (mPutT i mk mv ρ) QS ↔ Wq (mv ρ) fun v ρ1 => ownQ (fun o => Wq (mk ρ1) fun k ρ2 => Wp (gPutT o k v) fun o' => QS (.nx (ρ2.set i (some (true, o'))))) (ρ1[i]?) := by
  unfold mPutT Wq
  cases mv ρ with
  | none => simp [W_none]
  | some v =>
    simp only [W_some]
    split
    · rename_i o e
      rw [e]
      simp only [ownQ]
      cases mk v.2 with
      | none => simp [W_none]
      | some k =>
        simp only [W_some]
        cases gPutT o k.1 v.1 <;> simp [W_some, W_none]
    · rename_i h
      unfold ownQ
      split
      · rename_i o e; exact absurd e (h o)
      · simp [W_none]
def eT (p : List Int × D) : D × D := (.tuple (p.1.map .int), p.2)
def tdOf : List (List Int × D) → D
  | [] => .dict []
  | p :: r => tdD ((p :: r).map eT)
def getL (fd : List (List Int × D)) (k : List Int) : Option D := (fd.find? fun p => decide (p.1 = k)).map (·.2)
theorem tdE_of (fd : List (List Int × D)) : tdE (tdOf fd) = some (fd.map eT) := by cases fd <;> rfl
theorem dgetT_map (k : List Int) : ∀ fd : List (List Int × D), dgetT (fd.map eT) (kI k) = getL fd k
  | [] => rfl
  | p :: r => by
    rw [List.map_cons]
    unfold getL dgetT eT
    rw [keyT_ints, List.find?_cons]
    by_cases h : p.1 = k
    · simp [h]
    · have h' : ¬ kI p.1 = kI k := fun z => h (kI_inj z)
      simp only [Option.some.injEq, h, h', if_false, decide_false]
      exact dgetT_map k r
end
theorem any_int {x : Int} {ns : List Int} : (ns.any fun y => PyData.eqv (.int y) (.int x)) = decide (x ∈ ns) := by
  rw [Bool.eq_iff_iff, List.any_eq_true, decide_eq_true_eq]
  constructor
  · rintro ⟨y, hy, e⟩
    simp only [PyData.eqv, beq_iff_eq] at e
    exact e ▸ hy
  · intro h
    exact ⟨x, h, by simp [PyData.eqv]⟩
theorem w_inIT {x : Int} {ns : List Int} {Q : D → Prop} (q : Q (.bool (decide (x ∈ ns)))) : Wp (gIn (.int x) (.tuple (ns.map .int))) Q := by
  refine w_inT (n := 3) (by decide) (okM_int _ _) (fun _ _ => okM_int _ _) ?_
  rw [any_int]; exact q
theorem w_eqB {a b : Bool} {Q : D → Prop} (q : Q (.bool (a == b))) : Wp (gEq (.bool a) (.bool b)) Q := by
  cases a <;> cases b <;> exact ⟨_, if_pos (by decide), by simpa [PyData.eqv] using q⟩
end PD
set_option Elab.async false
set_option linter.all false
set_option maxRecDepth 100000
set_option maxHeartbeats 2000000
namespace PD
open PySem PySem.Spec PyProof.Rows L2 GxR GenX OwnK
section
variable {ρ : Rho}
theorem q_dcTo {mi : M (List D)} {g : D → Rho → Option Rho} {mt : M Bool} {mk mv : M D} {vs : List Nat} {K : D → Rho → Prop} : Wq (mDcT mi g mt mk mv vs ρ) K ↔ Wq (mi ρ) fun ds ρ1 => Wq (dcLT g mt mk mv vs ds [] (wipeR ρ1 vs)) fun s ρ2 => K (tdC s) (wipeR ρ2 vs) := by
  unfold mDcT Wq
  cases mi ρ with
  | none => simp [W_none]
  | some r =>
    simp only [W_some]
    cases dcLT g mt mk mv vs r.1 [] (wipeR r.2 vs) <;> simp [W_some, W_none]
end
theorem w_eqNilI {ns : List Int} {Q : D → Prop} (q : Q (.bool ns.isEmpty)) : Wp (gEq (.list (ns.map .int)) (.list [])) Q := by
  refine ⟨_, if_pos ?_, ?_⟩
  · rw [(okM_lst (okM_map (xs := ns) fun _ _ => okM_int 0 _)).okE (by decide), show okE (.list []) = true by decide]; rfl
  · have : PyData.eqv (.list (ns.map .int)) (.list []) = ns.isEmpty := by
      cases ns <;> simp [PyData.eqv, PyData.eqvAll]
    rw [this]; exact q
theorem w_addLN {a b : List D} {Q : D → Prop} (h : a.length + b.length ≤ 16777216) (q : Q (.list (a ++ b))) : Wp (gAddN (.list a) (.list b)) Q := ⟨_, if_pos (by unfold sizeLine; omega), q⟩
end PD
set_option Elab.async false
set_option linter.all false
set_option maxRecDepth 100000
set_option maxHeartbeats 2000000
namespace PD
open PySem PySem.Spec PyProof.Rows L2 GxR GenX OwnK
def bagQ (K : Int → Int → List Int → D → Prop) [Tg K] (d : D) : Prop := match unbag d with
  | some (a, b, gs, dc) => K a b gs dc
  | none => False
theorem unbag_bagD {a b : Int} {gs : List Int} {dc : D} : unbag (bagD a b gs dc) = some (a, b, gs, dc) := by
  show (allInts (gs.map .int)).map _ = _
  rw [allInts_map]; rfl
theorem bagQ_eq {K : Int → Int → List Int → D → Prop} {a b : Int} {gs : List Int} {dc : D} : bagQ K (bagD a b gs dc) ↔ K a b gs dc := by
  unfold bagQ; rw [unbag_bagD]
theorem bagQ_some {K : Int → Int → List Int → D → Prop} {d : D} {a b : Int} {gs : List Int} {dc : D} (h : unbag d = some (a, b, gs, dc)) : bagQ K d ↔ K a b gs dc := by
  unfold bagQ; rw [h]
theorem bagQ_none {K : Int → Int → List Int → D → Prop} {d : D} (h : unbag d = none) : bagQ K d ↔ False := by
  unfold bagQ; rw [h]
def bagK : Nat → Int → Int → D → Option D
  | 0, a, _, _ => some (.int a)
  | 1, _, b, _ => some (.int b)
  | 3, _, _, dc => some dc
  | _, _, _, _ => none
def bagP : Nat → Int → Int → Int → List Int → D → Option D
  | 0, v, _, b, gs, dc => some (bagD v b gs dc)
  | 1, v, a, _, gs, dc => some (bagD a v gs dc)
  | _, _, _, _, _, _ => none
theorem bagK_0 {a b : Int} {dc : D} : bagK 0 a b dc = some (.int a) := rfl
theorem bagK_1 {a b : Int} {dc : D} : bagK 1 a b dc = some (.int b) := rfl
theorem bagK_3 {a b : Int} {dc : D} : bagK 3 a b dc = some dc := rfl
theorem bagP_0 {v a b : Int} {gs : List Int} {dc : D} : bagP 0 v a b gs dc = some (bagD v b gs dc) := rfl
theorem bagP_1 {v a b : Int} {gs : List Int} {dc : D} : bagP 1 v a b gs dc = some (bagD a v gs dc) := rfl
def listQ (K : List D → Prop) [Tg K] : D → Prop
  | .list z => K z
  | _ => False
theorem listQ_eq {K : List D → Prop} {z : List D} : listQ K (.list z) ↔ K z := Iff.rfl
section
variable {K : D → Rho → Prop} {KL : List D → Rho → Prop} {QS : Out → Prop} {ρ : Rho}
theorem own_cases {K : D → Prop} {o : Option (Option (Bool × D))} : ownQ K o ↔ ∃ d, o = some (some (true, d)) ∧ K d := by
  unfold ownQ
  split
  · exact ⟨fun h => ⟨_, rfl, h⟩, fun ⟨d, e, h⟩ => by cases e; exact h⟩
  · rename_i h
    exact ⟨fun z => z.elim, fun ⟨d, e, _⟩ => h d e⟩
theorem q_bag {i k : Nat} : Wq (mBag i k ρ) K ↔ ownQ (fun d => bagQ (fun a b _ dc => Wp (bagK k a b dc) fun x => K x ρ) d) (ρ[i]?) := by
  unfold mBag
  split
  · rename_i d e
    rw [e, ownQ_true]
    split
    · rename_i a b gs dc e2
      rw [bagQ_some e2]
      unfold bagK
      split <;> (unfold Wq; simp [W_some, W_none])
    · rename_i e2
      rw [bagQ_none e2]
      exact q_none
  · rename_i h
    refine q_none.trans ?_
    rw [own_cases]
    exact ⟨fun z => z.elim, fun ⟨d, e, _⟩ => h d e⟩
theorem q_bagLen {i : Nat} : Wq (mBagLen i ρ) K ↔ ownQ (fun d => bagQ (fun _ _ gs _ => K (.int gs.length) ρ) d) (ρ[i]?) := by
  unfold mBagLen
  split
  · rename_i d e
    rw [e, ownQ_true]
    split
    · rename_i a b gs dc e2
      rw [bagQ_some e2]
      exact q_some
    · rename_i e2
      rw [bagQ_none e2]
      exact q_none
  · rename_i h
    refine q_none.trans ?_
    rw [own_cases]
    exact ⟨fun z => z.elim, fun ⟨d, e, _⟩ => h d e⟩
theorem q_bagPop {i : Nat} : Wq (mBagPop i ρ) K ↔ ownQ (fun d => bagQ (fun a b gs dc => Wp gs.getLast? fun g => K (.int g) (ρ.set i (some (true, bagD a b gs.dropLast dc)))) d) (ρ[i]?) := by
  unfold mBagPop
  split
  · rename_i d e
    rw [e, ownQ_true]
    split
    · rename_i a b gs dc e2
      rw [bagQ_some e2]
      cases gs.getLast? with
      | none => (unfold Wq; simp [W_none])
      | some g => (unfold Wq; simp [W_some])
    · rename_i e2
      rw [bagQ_none e2]
      exact q_none
  · rename_i h
    refine q_none.trans ?_
    rw [own_cases]
    exact ⟨fun z => z.elim, fun ⟨d, e, _⟩ => h d e⟩
theorem q_bagPut {i k : Nat} {mv : M D} : Wp (mBagPut i k mv ρ) QS ↔ Wq (mv ρ) fun v ρ1 => intQ (fun v => ownQ (fun d => bagQ (fun a b gs dc => Wp (bagP k v a b gs dc) fun d' => QS (.nx (ρ1.set i (some (true, d'))))) d) (ρ1[i]?)) v := by
  unfold mBagPut Wq
  cases mv ρ with
  | none => simp [W_none]
  | some r =>
    obtain ⟨v, ρ1⟩ := r
    simp only [W_some]
    cases v with
    | int v =>
      simp only [intQ_int]
      split
      · rename_i d e
        rw [e, ownQ_true]
        split
        · rename_i a b gs dc e2
          rw [bagQ_some e2]
          unfold bagP
          split <;> simp [W_some, W_none]
        · rename_i e2
          rw [bagQ_none e2]
          exact W_none
      · rename_i h
        refine W_none.trans ?_
        rw [own_cases]
        exact ⟨fun z => z.elim, fun ⟨d, e, _⟩ => h d e⟩
    | _ => simp [W_none, intQ]
theorem q_ext {i : Nat} {m : M D} : Wp (mExt i m ρ) QS ↔ ownQ (fun o => Wq (m ρ) fun d ρ1 => Wp (gExt o d) fun o' => QS (.nx (ρ1.set i (some (true, o'))))) (ρ[i]?) := by
  unfold mExt Wq
  split
  · rename_i o e
    rw [e, ownQ_true]
    cases m ρ with
    | none => simp [W_none]
    | some r =>
      simp only [W_some]
      cases gExt o r.1 <;> simp [W_some, W_none]
  · rename_i h
    refine W_none.trans ?_
    rw [own_cases]
    exact ⟨fun z => z.elim, fun ⟨d, e, _⟩ => h d e⟩
theorem q_mut0 {i : Nat} {g : D → Option (D × D)} : Wq (mMut0 i g ρ) K ↔ ownQ (fun o => Wq (g o) fun r o' => K r (ρ.set i (some (true, o')))) (ρ[i]?) := by
  unfold mMut0 Wq
  split
  · rename_i o e
    rw [e, ownQ_true]
    cases g o <;> simp [W_some, W_none]
  · rename_i h
    refine W_none.trans ?_
    rw [own_cases]
    exact ⟨fun z => z.elim, fun ⟨d, e, _⟩ => h d e⟩
theorem q_star {m : M D} {ms : M (List D)} : Wq (mStar m ms ρ) KL ↔ Wq (m ρ) fun d ρ1 => Wp (gSeq d) fun ds => Wq (ms ρ1) fun es ρ2 => KL (ds ++ es) ρ2 := by
  unfold mStar Wq
  cases m ρ with
  | none => simp [W_none]
  | some r =>
    simp only [W_some]
    cases gSeq r.1 with
    | none => simp [W_none]
    | some ds =>
      simp only [W_some]
      cases ms r.2 <;> simp [W_some, W_none]
theorem q_runB {n : Nat} {m : Rho → Option (D × Rho)} {ds : List D} {K : D → List D → Prop} : Wq (runB n m ds) K ↔ Wq (m (startR [] n ds)) fun d ρ => K d (backR ρ ds.length) := by
  unfold runB Wq
  exact W_map
theorem q_seqB {m1 : MS} {m2 : Rho → Option (D × Rho)} : Wq (mSeqB m1 m2 ρ) K ↔ Wp (m1 ρ) (seqQ (fun ρ1 => Wq (m2 ρ1) K) fun _ => False) := by
  unfold mSeqB Wq
  cases m1 ρ with
  | none => simp [W_none]
  | some o => cases o <;> simp [W_some, W_none, seqQ]
theorem q_retB {i : Nat} {m3 : M D} : Wq (mRetB i m3 ρ) K ↔ ownQ (fun o => listQ (fun gs => Wp (allInts gs) fun ns => Wq (m3 ρ) fun dc ρ1 => K (bagD 0 0 ns dc) ρ1) o) (ρ[i]?) := by
  unfold mRetB Wq
  split
  · rename_i gs e
    rw [e, ownQ_true, listQ_eq]
    cases allInts gs with
    | none => simp [W_none]
    | some ns =>
      simp only [W_some]
      cases m3 ρ <;> simp [W_some, W_none]
  · rename_i h
    refine W_none.trans ?_
    rw [own_cases]
    refine ⟨fun z => z.elim, fun ⟨d, e, h2⟩ => ?_⟩
    cases d with
    | list gs => exact h gs e
    | _ => exact h2
end
theorem gRevL_l {ds : List D} : gRevL (.list ds) = some (.list ds.reverse) := rfl
theorem gRev_l {ds : List D} : gRev (.list ds) = some (.none, .list ds.reverse) := rfl
theorem gSeq_l {ds : List D} : gSeq (.list ds) = some ds := rfl
theorem gSeq_t {ds : List D} : gSeq (.tuple ds) = some ds := rfl
section
variable {Q : D → Prop}
theorem w_ext {a b : List D} (h : a.length + b.length ≤ 16777216) (q : Q (.list (a ++ b))) : Wp (gExt (.list a) (.list b)) Q := ⟨_, if_pos (by unfold sizeLine; omega), q⟩
theorem w_mulI {a b : Int} (h : (-18446744073709551616 < a ∧ a < 18446744073709551616) ∨ (-18446744073709551616 < b ∧ b < 18446744073709551616)) (q : Q (.int (a * b))) : Wp (gMulI (.int a) (.int b)) Q := ⟨_, if_pos h, q⟩
theorem w_sorted2 {ns : List Int} (q : Q (.list ((sortI ns).map .int))) : Wp (gSorted2 [.list (ns.map .int)]) Q := by
  have e : gSorted [.list (ns.map .int)] = some (.list ((sortI ns).map .int)) := by
    show (allInts (ns.map .int)).map _ = _
    rw [allInts_map]; rfl
  refine ⟨_, ?_, q⟩
  unfold gSorted2
  rw [e]
theorem w_sortedDI {kvs : List (D × D)} {ks : List Int} (h : kvs.map (·.1) = ks.map .int) (h64 : ks.length < 64) (q : Q (.list ((sortI ks).map .int))) : Wp (gSorted2 [.dict kvs]) Q := by
  obtain ⟨d, e, q⟩ := w_sortedD h h64 q
  exact ⟨d, by unfold gSorted2; rw [e], q⟩
theorem putBack_n2 {ds : List D} {ρ : Rho} : putBack [none, none] ds ρ = ρ := by
  match ds with
  | [] => rfl
  | _ :: ds => exact putBack_none
theorem putBack_n3 {ds : List D} {ρ : Rho} : putBack [none, none, none] ds ρ = ρ := by
  match ds with
  | [] => rfl
  | _ :: ds => exact putBack_n2
theorem isBg_td (fd : List (List Int × D)) : isBg (tdOf fd) = false := by cases fd <;> rfl
theorem w_sum2L {ns : List Int} (q : Q (.int ns.sum)) : Wp (gSum2 [.list (ns.map .int)]) Q := by
  refine ⟨_, ?_, q⟩
  show (allInts (ns.map .int)).map _ = _
  rw [allInts_map]; rfl
theorem w_sum2T {ns : List Int} (q : Q (.int ns.sum)) : Wp (gSum2 [.tuple (ns.map .int)]) Q := by
  refine ⟨_, ?_, q⟩
  show (allInts (ns.map .int)).map _ = _
  rw [allInts_map]; rfl
theorem w_last {gs : List Int} {Q : Int → Prop} (h : 0 < gs.length) (q : ∀ g, g ∈ gs → Q g) : Wp gs.getLast? Q := by
  have hn : gs ≠ [] := fun e => by rw [e] at h; exact absurd h (by decide)
  exact ⟨gs.getLast hn, List.getLast?_eq_some_getLast hn, q _ (List.getLast_mem hn)⟩
theorem gListOf2_l {ds : List D} : gListOf2 [.list ds] = some (.list ds) := rfl
theorem gListOf2_t {ds : List D} : gListOf2 [.tuple ds] = some (.list ds) := rfl
end
theorem bcs_mk {b : Bool} {p q : Prop} (h1 : b = true → p) (h2 : b = false → q) : bcs b p q := ⟨h1, h2⟩
theorem seq_cut {m1 m2 : MS} {ρ : Rho} {QS : Out → Prop} (J : Rho → Prop) (h1 : Wp (m1 ρ) (seqQ J fun _ => False)) (h2 : ∀ ρ', J ρ' → Wp (m2 ρ') QS) : Wp (mSeq m1 m2 ρ) QS := W_seq.mpr (h1.mono fun o ho => by
  cases o with
  | nx ρ1 => exact h2 ρ1 ho
  | _ => exact ho.elim)
def chkIn (a : Str) (ds : List D) : Option Bool := match strsOf ds with
  | some zs => if PyData.strOk a = true ∧ ∀ z ∈ zs, PyData.strOk z = true then some (decide (a ∈ zs)) else none
  | none => none
theorem chkIn_some {a : Str} {ds : List D} {r : Bool} (h : chkIn a ds = some r) : ∃ zs : List Str, ds = zs.map .str ∧ PyData.strOk a = true ∧ (∀ z ∈ zs, PyData.strOk z = true) ∧ r = decide (a ∈ zs) := by
  have st : ∀ {ds : List D} {zs : List Str}, strsOf ds = some zs → ds = zs.map .str := by
    intro ds
    induction ds with
    | nil => intro zs h; cases h; rfl
    | cons d t ih =>
      intro zs h
      cases d with
      | str z =>
        have h : (strsOf t).map (z :: ·) = some zs := h
        cases q : strsOf t with
        | none => rw [q] at h; cases h
        | some l => rw [q] at h; cases h; rw [List.map_cons, ih q]
      | _ => cases h
  unfold chkIn at h
  split at h
  · rename_i zs e
    split at h
    · rename_i c
      cases h
      exact ⟨zs, st e, c.1, c.2, rfl⟩
    · cases h
  · cases h
theorem w_inLc {a : Str} {ds : List D} {Q : D → Prop} (r : Bool) (h : chkIn a ds = some r) (q : Q (.bool r)) : Wp (gIn (.str a) (.list ds)) Q := by
  obtain ⟨zs, rfl, h1, h2, rfl⟩ := chkIn_some h
  exact w_inS h1 h2 q
theorem w_inTc {a : Str} {ds : List D} {Q : D → Prop} (r : Bool) (h : chkIn a ds = some r) (q : Q (.bool r)) : Wp (gIn (.str a) (.tuple ds)) Q := by
  obtain ⟨zs, rfl, h1, h2, rfl⟩ := chkIn_some h
  refine w_inT (n := 1) (by decide) (okM_str 1 h1) (fun y hy => okM_str 1 (h2 y hy)) ?_
  have := any_str (x := a) (zs := zs)
  rw [List.any_map] at this
  exact this ▸ q
theorem seq_cutR {m1 m2 : MS} {ρ : Rho} {QS : Out → Prop} (J : Rho → Prop) (h1 : Wp (m1 ρ) (seqQ J QS)) (h2 : ∀ ρ', J ρ' → Wp (m2 ρ') QS) : Wp (mSeq m1 m2 ρ) QS := W_seq.mpr (h1.mono fun o ho => by
  cases o with
  | nx ρ1 => exact h2 ρ1 ho
  | _ => exact ho)
theorem perm_erase {α : Type} {ds left found : List α} {i : Nat} (hp : (found ++ left).Perm ds) {d : α} (hd : left[i]? = some d) : (found ++ [d] ++ left.eraseIdx i).Perm ds := by
  obtain ⟨hi, hd⟩ := List.getElem?_eq_some_iff.mp hd
  refine List.Perm.trans ?_ hp
  rw [List.append_assoc, List.eraseIdx_eq_take_drop_succ]
  refine List.Perm.append_left _ ?_
  have : left = left.take i ++ (d :: left.drop (i + 1)) := by
    rw [← hd, ← List.drop_eq_getElem_cons hi, List.take_append_drop]
  rw [List.singleton_append]
  conv => rhs; rw [this]
  exact (List.perm_middle).symm
theorem w_popM {α : Type} {xs : List α} {e : α → D} {i : Int} {QD : D → D → Prop} (h0 : 0 ≤ i) (h1 : i < xs.length) (h2 : xs.length ≤ 16777216) (q : ∀ x, xs[i.toNat]? = some x → QD (e x) (.list ((xs.eraseIdx i.toNat).map e))) : Wq (gPopAt (.list (xs.map e)) (.int i)) QD := by
  have hi : i.toNat < xs.length := by omega
  refine ⟨(e xs[i.toNat], .list ((xs.eraseIdx i.toNat).map e)), ?_, q _ (List.getElem?_eq_getElem hi)⟩
  show (if -(2 ^ 63) ≤ i ∧ i < 2 ^ 63 then (match seqIndex? i (xs.map e).length with
    | some k => (match (xs.map e)[k]? with
      | some d => some (d, PyData.list ((xs.map e).eraseIdx k))
      | none => none)
    | none => none) else none) = _
  have hs : seqIndex? i (xs.map e).length = some i.toNat := by
    unfold seqIndex?
    rw [List.length_map]
    simp only [show ¬ i < 0 by omega, if_false]
    first | rw [if_pos (by omega)] | simp; omega
  rw [if_pos (by omega), hs]
  simp [List.getElem?_eq_getElem hi, List.eraseIdx_eq_take_drop_succ]
end PD
set_option Elab.async false
set_option linter.all false
set_option maxRecDepth 100000
set_option maxHeartbeats 2000000
namespace PD
open PySem PySem.Spec PyProof.Rows L2 GxR GenX OwnK
section
variable {α β : Type} [DecidableEq α]
def getM (l : List (α × β)) (k : α) : Option β := (l.find? fun p => decide (p.1 = k)).map (·.2)
def putM (l : List (α × β)) (k : α) (v : β) : List (α × β) := if (getM l k).isSome then l.map (fun p => if p.1 = k then (p.1, v) else p) else l ++ [(k, v)]
theorem getM_nil (k : α) : getM ([] : List (α × β)) k = none := rfl
theorem getM_cons (p : α × β) (r : List (α × β)) (k : α) : getM (p :: r) k = if p.1 = k then some p.2 else getM r k := by
  unfold getM
  rw [List.find?_cons]
  by_cases h : p.1 = k <;> simp [h]
theorem getM_isSome {l : List (α × β)} {k : α} : (getM l k).isSome = true ↔ k ∈ l.map (·.1) := by
  induction l with
  | nil => simp [getM_nil]
  | cons p r ih =>
    rw [getM_cons]
    by_cases h : p.1 = k
    · simp [h]
    · have h2 : ¬ k = p.1 := fun e => h e.symm
      simp [h, h2, ih]
theorem getM_some {l : List (α × β)} {k : α} (h : k ∈ l.map (·.1)) : ∃ v, getM l k = some v := Option.isSome_iff_exists.mp (getM_isSome.mpr h)
theorem getM_nd {l : List (α × β)} (hn : (l.map (·.1)).Nodup) {p : α × β} (hp : p ∈ l) : getM l p.1 = some p.2 := by
  induction l with
  | nil => cases hp
  | cons q r ih =>
    rw [List.map_cons, List.nodup_cons] at hn
    rw [getM_cons]
    rcases List.mem_cons.mp hp with e | hp
    · subst e; rw [if_pos rfl]
    · rw [if_neg (fun e => hn.1 (List.mem_map.mpr ⟨p, hp, e.symm⟩))]
      exact ih hn.2 hp
theorem putM_keys (l : List (α × β)) (k : α) (v : β) : (putM l k v).map (·.1) = if k ∈ l.map (·.1) then l.map (·.1) else l.map (·.1) ++ [k] := by
  unfold putM
  by_cases h : k ∈ l.map (·.1)
  · rw [if_pos (getM_isSome.mpr h), if_pos h, List.map_map]
    refine List.map_congr_left fun p _ => ?_
    simp only [Function.comp]
    split <;> rfl
  · rw [if_neg (fun z => h (getM_isSome.mp z)), if_neg h, List.map_append]; rfl
theorem putM_nd {l : List (α × β)} (h : (l.map (·.1)).Nodup) (k : α) (v : β) : ((putM l k v).map (·.1)).Nodup := by
  rw [putM_keys]
  split
  · exact h
  · rename_i hk
    exact List.nodup_append.mpr ⟨h, List.nodup_cons.mpr ⟨by simp, .nil⟩, fun x hx y hy e => hk (by rw [List.mem_singleton.mp hy] at e; rw [← e]; exact hx)⟩
theorem putM_len (l : List (α × β)) (k : α) (v : β) : (putM l k v).length ≤ l.length + 1 := by
  unfold putM
  split <;> simp
theorem putM_key {l : List (α × β)} {k : α} {v : β} {x : α} : x ∈ (putM l k v).map (·.1) ↔ x = k ∨ x ∈ l.map (·.1) := by
  rw [putM_keys]
  split
  · rename_i h
    exact ⟨.inr, fun z => z.elim (fun e => e ▸ h) id⟩
  · rw [List.mem_append, List.mem_singleton]
    exact ⟨fun z => z.symm, fun z => z.symm⟩
theorem getM_map (l : List (α × β)) (k x : α) (v : β) : getM (l.map fun p => if p.1 = k then (p.1, v) else p) x = if x = k ∧ (getM l k).isSome then some v else getM l x := by
  induction l with
  | nil => simp [getM_nil]
  | cons p r ih =>
    rw [List.map_cons, getM_cons, getM_cons, ih]
    by_cases h : p.1 = k
    · by_cases h2 : k = x
      · subst h2; simp [h, getM_cons]
      · have h3 : ¬ p.1 = x := fun e => h2 (h.symm.trans e)
        have h4 : ¬ x = k := fun e => h2 e.symm
        simp [h, h2, h4, getM_cons]
    · by_cases h2 : p.1 = x
      · have h4 : ¬ x = k := fun e => h (h2.trans e)
        simp [h2, h4, getM_cons]
      · simp [h, h2, getM_cons]
theorem getM_app (l m : List (α × β)) (x : α) : getM (l ++ m) x = (getM l x).or (getM m x) := by
  induction l with
  | nil => rfl
  | cons p r ih =>
    rw [List.cons_append, getM_cons, getM_cons, ih]
    split <;> rfl
theorem getM_put (l : List (α × β)) (k x : α) (v : β) : getM (putM l k v) x = if x = k then some v else getM l x := by
  unfold putM
  split
  · rename_i h
    rw [getM_map]
    by_cases h2 : x = k <;> simp [h2, h]
  · rename_i h
    rw [getM_app, getM_cons, getM_nil]
    by_cases h2 : k = x
    · subst h2
      have : getM l k = none := by
        cases e : getM l k with
        | none => rfl
        | some v => rw [e] at h; simp at h
      simp [this]
    · have h3 : ¬ x = k := fun e => h2 e.symm
      simp [h2, h3]
def kvM (ek : α → D) (ev : β → D) (l : List (α × β)) : List (D × D) := l.map fun p => (ek p.1, ev p.2)
theorem kvM_len (ek : α → D) (ev : β → D) (l : List (α × β)) : (kvM ek ev l).length = l.length := List.length_map ..
theorem kvM_keys (ek : α → D) (ev : β → D) (l : List (α × β)) : (kvM ek ev l).map (·.1) = (l.map (·.1)).map ek := by unfold kvM; rw [List.map_map, List.map_map]; rfl
theorem kvM_snoc (ek : α → D) (ev : β → D) (l : List (α × β)) (k : α) (v : β) : kvM ek ev l ++ [(ek k, ev v)] = kvM ek ev (l ++ [(k, v)]) := by unfold kvM; rw [List.map_append]; rfl
end
section
variable {β : Type} {ev : β → D}
theorem dget_MI (l : List (Int × β)) (k : Int) : dget (kvM .int ev l) (.inl k) = (getM l k).map ev := by
  induction l with
  | nil => rfl
  | cons p r ih =>
    show dget ((PyData.int p.1, ev p.2) :: kvM .int ev r) (.inl k) = _
    unfold dget
    rw [keyD_i, getM_cons, ih]
    by_cases h : p.1 = k <;> simp [h]
theorem dget_MS (l : List (Str × β)) (k : Str) : dget (kvM .str ev l) (.inr k) = (getM l k).map ev := by
  induction l with
  | nil => rfl
  | cons p r ih =>
    show dget ((PyData.str p.1, ev p.2) :: kvM .str ev r) (.inr k) = _
    unfold dget
    rw [keyD_s, getM_cons, ih]
    by_cases h : p.1 = k <;> simp [h]
theorem dput_MI (l : List (Int × β)) (k : Int) (v : β) : gPut.dput (kvM .int ev l) (.inl k) (ev v) = kvM .int ev (putM l k v) := by
  unfold gPut.dput putM
  rw [dget_MI, Option.isSome_map]
  split
  · unfold kvM
    rw [List.map_map, List.map_map]
    refine List.map_congr_left fun p _ => ?_
    simp only [Function.comp, keyD_i]
    by_cases h : p.1 = k <;> simp [h]
  · exact kvM_snoc _ _ _ _ _
theorem dput_MS (l : List (Str × β)) (k : Str) (v : β) : gPut.dput (kvM .str ev l) (.inr k) (ev v) = kvM .str ev (putM l k v) := by
  unfold gPut.dput putM
  rw [dget_MS, Option.isSome_map]
  split
  · unfold kvM
    rw [List.map_map, List.map_map]
    refine List.map_congr_left fun p _ => ?_
    simp only [Function.comp, keyD_s]
    by_cases h : p.1 = k <;> simp [h]
  · exact kvM_snoc _ _ _ _ _
theorem isT_MI (l : List (Int × β)) : isT (kvM .int ev l) = false := isT_map (fun _ => rfl) l
theorem isT_MS (l : List (Str × β)) : isT (kvM .str ev l) = false := isT_map (fun _ => rfl) l
theorem w_putMI {l : List (Int × β)} {k : Int} {v : β} {Q : D → Prop} (h : l.length < 16777216) (q : Q (.dict (kvM .int ev (putM l k v)))) : Wp (gPut (.dict (kvM .int ev l)) (.int k) (ev v)) Q :=
  ⟨_, gPutD (by rw [kvM_len]; exact h) (isT_MI l), by rw [dput_MI]; exact q⟩
theorem w_putMS {l : List (Str × β)} {k : Str} {v : β} {Q : D → Prop} (h : l.length < 16777216) (q : Q (.dict (kvM .str ev (putM l k v)))) : Wp (gPut (.dict (kvM .str ev l)) (.str k) (ev v)) Q :=
  ⟨_, gPutDs (by rw [kvM_len]; exact h) (isT_MS l), by rw [dput_MS]; exact q⟩
theorem w_ixMI {l : List (Int × β)} {k : Int} {v : β} {Q : D → Prop} (h : getM l k = some v) (q : Q (ev v)) : Wp (gIx (.dict (kvM .int ev l)) (.int k)) Q :=
  ⟨_, by rw [gIx_di, dget_MI, h]; rfl, q⟩
theorem w_ixMS {l : List (Str × β)} {k : Str} {v : β} {Q : D → Prop} (h : getM l k = some v) (q : Q (ev v)) : Wp (gIx (.dict (kvM .str ev l)) (.str k)) Q :=
  ⟨_, by rw [gIx_ds, dget_MS, h]; rfl, q⟩
def putAllM {α β : Type} [DecidableEq α] (ps : List (α × β)) (l : List (α × β)) : List (α × β) := ps.foldl (fun l p => putM l p.1 p.2) l
theorem putAllM_snoc {α β : Type} [DecidableEq α] (ps : List (α × β)) (p : α × β) (l : List (α × β)) : putAllM (ps ++ [p]) l = putM (putAllM ps l) p.1 p.2 := by unfold putAllM; rw [List.foldl_append]; rfl
theorem putAllM_nd {α β : Type} [DecidableEq α] : ∀ (ps l : List (α × β)), ((l ++ ps).map (·.1)).Nodup → putAllM ps l = l ++ ps
  | [], l, _ => by rw [List.append_nil]; rfl
  | p :: r, l, h => by
    have hp : p.1 ∉ l.map (·.1) := fun hm => by
      rw [List.map_append, List.nodup_append] at h
      exact h.2.2 p.1 hm p.1 (by simp) rfl
    have e : putM l p.1 p.2 = l ++ [p] := by
      unfold putM
      rw [if_neg (fun z => hp (getM_isSome.mp z))]
    show putAllM r (putM l p.1 p.2) = _
    rw [e, putAllM_nd r (l ++ [p]) (by rw [List.append_assoc]; exact h), List.append_assoc]
    rfl
theorem putAllM_key {α β : Type} [DecidableEq α] {x : α} : ∀ (ps l : List (α × β)), x ∈ (putAllM ps l).map (·.1) ↔ x ∈ ps.map (·.1) ∨ x ∈ l.map (·.1)
  | [], l => by simp [putAllM]
  | p :: r, l => by
    show x ∈ (putAllM r (putM l p.1 p.2)).map (·.1) ↔ _
    rw [putAllM_key r, putM_key, List.map_cons, List.mem_cons]
    exact ⟨fun z => z.elim (fun z => .inl (.inr z)) fun z => z.elim (fun z => .inl (.inl z)) .inr, fun z => z.elim (fun z => z.elim (fun z => .inr (.inl z)) .inl) fun z => .inr (.inr z)⟩
theorem putAllM_len {α β : Type} [DecidableEq α] : ∀ (ps l : List (α × β)), (putAllM ps l).length ≤ l.length + ps.length
  | [], l => Nat.le_refl _
  | p :: r, l => Nat.le_trans (putAllM_len r (putM l p.1 p.2)) (by have := putM_len l p.1 p.2; simp; omega)
section
variable {ρ : Rho} {g : D → Rho → Option Rho} {mb : MS} {mt : M Bool} {mk mv : M D} {vs : List Nat}
theorem q_dcMS {α : Type} {K : List (D × D) → Rho → Prop} (xs : List α) (e : α → D) (J : Rho → Prop) (p : α → Str × β) (ev : β → D) {ρ : Rho} (hz : xs.length < 16777216) (h0 : J ρ)
    (hs : ∀ x ∈ xs, ∀ ρ, J ρ → Wp (g (e x) ρ) fun ρ1 => Wq (mk ρ1) fun kd ρ3 => Wq (mv ρ3) fun y ρ4 => kd = .str (p x).1 ∧ y = ev (p x).2 ∧ J (wipeR ρ4 vs))
    (hq : ∀ ρ, J ρ → K (kvM .str ev (putAllM (xs.map p) [])) ρ) : Wq (dcL g mYes mk mv vs (xs.map e) [] ρ) K := by
  refine q_dcK (fun k acc ρ => acc = kvM .str ev (putAllM ((xs.take k).map p) []) ∧ J ρ) (by simpa using hz) ⟨rfl, h0⟩ (fun k d acc ρ q i => ?_) (fun acc ρ hl i => ?_)
  · rw [List.getElem?_map] at q
    cases hx : xs[k]? with
    | none => rw [hx] at q; cases q
    | some x =>
      rw [hx] at q
      cases q
      obtain ⟨hk, hx'⟩ := List.getElem?_eq_some_iff.mp hx
      refine (hs x (List.mem_of_getElem? hx) ρ i.2).mono fun ρ1 h => q_some.mpr (bcs_true.mpr (h.mono fun kd ρ3 h => h.mono fun y ρ4 ⟨h1, h2, h3⟩ => ?_))
      rw [h1, keyD_s]
      refine W_some.mpr ⟨?_, h3⟩
      rw [h2, i.1, dput_MS, show xs.take (k + 1) = xs.take k ++ [x] by rw [← hx', List.take_append_getElem hk], List.map_append]
      exact congrArg _ (putAllM_snoc _ _ _).symm
  · have h := i.1
    rw [List.length_map, List.take_length] at h
    rw [h]
    exact hq ρ i.2
end
theorem w_sortedMI {l : List (Int × β)} {Q : D → Prop} (h : l.length < 64) (q : Q (.list ((sortI (l.map (·.1))).map .int))) : Wp (gSorted2 [.dict (kvM .int ev l)]) Q := w_sortedDI (kvM_keys _ _ _) (by rw [List.length_map]; exact h) q
end
end PD
set_option Elab.async false
set_option linter.all false
set_option maxRecDepth 100000
set_option maxHeartbeats 2000000
namespace PD
open PySem PySem.Spec PyProof.Rows L2 GxR GenX OwnK
section
variable {b : Bool} {i : Int} {z : Str} {ds : List D}
theorem isi_b_n : gIsi "bool" .none = some (.bool false) := by show (if _ then _ else _) = _; rfl
theorem isi_b_b : gIsi "bool" (.bool b) = some (.bool true) := by show (if _ then _ else _) = _; rfl
theorem isi_b_i : gIsi "bool" (.int i) = some (.bool false) := by show (if _ then _ else _) = _; rfl
theorem isi_b_s : gIsi "bool" (.str z) = some (.bool false) := by show (if _ then _ else _) = _; rfl
theorem isi_b_t : gIsi "bool" (.tuple ds) = some (.bool false) := by show (if _ then _ else _) = _; rfl
theorem isi_b_l : gIsi "bool" (.list ds) = some (.bool false) := by show (if _ then _ else _) = _; rfl
theorem isi_i_n : gIsi "int" .none = some (.bool false) := by show (if _ then _ else _) = _; rfl
theorem isi_i_b : gIsi "int" (.bool b) = some (.bool true) := by show (if _ then _ else _) = _; rfl
theorem isi_i_i : gIsi "int" (.int i) = some (.bool true) := by show (if _ then _ else _) = _; rfl
theorem isi_i_s : gIsi "int" (.str z) = some (.bool false) := by show (if _ then _ else _) = _; rfl
theorem isi_i_t : gIsi "int" (.tuple ds) = some (.bool false) := by show (if _ then _ else _) = _; rfl
theorem isi_i_l : gIsi "int" (.list ds) = some (.bool false) := by show (if _ then _ else _) = _; rfl
theorem isi_s_n : gIsi "str" .none = some (.bool false) := by show (if _ then _ else _) = _; rfl
theorem isi_s_b : gIsi "str" (.bool b) = some (.bool false) := by show (if _ then _ else _) = _; rfl
theorem isi_s_i : gIsi "str" (.int i) = some (.bool false) := by show (if _ then _ else _) = _; rfl
theorem isi_s_s : gIsi "str" (.str z) = some (.bool true) := by show (if _ then _ else _) = _; rfl
theorem isi_s_t : gIsi "str" (.tuple ds) = some (.bool false) := by show (if _ then _ else _) = _; rfl
theorem isi_s_l : gIsi "str" (.list ds) = some (.bool false) := by show (if _ then _ else _) = _; rfl
theorem isi_t_n : gIsi "tuple" .none = some (.bool false) := by show (if _ then _ else _) = _; rfl
theorem isi_t_b : gIsi "tuple" (.bool b) = some (.bool false) := by show (if _ then _ else _) = _; rfl
theorem isi_t_i : gIsi "tuple" (.int i) = some (.bool false) := by show (if _ then _ else _) = _; rfl
theorem isi_t_s : gIsi "tuple" (.str z) = some (.bool false) := by show (if _ then _ else _) = _; rfl
theorem isi_t_t : gIsi "tuple" (.tuple ds) = some (.bool true) := by show (if _ then _ else _) = _; rfl
theorem isi_t_l : gIsi "tuple" (.list ds) = some (.bool false) := by show (if _ then _ else _) = _; rfl
theorem isN_n : isN .none = true := rfl
theorem isN_b : isN (.bool b) = false := rfl
theorem isN_i : isN (.int i) = false := rfl
theorem isN_s : isN (.str z) = false := rfl
theorem isN_t : isN (.tuple ds) = false := rfl
theorem isN_l : isN (.list ds) = false := rfl
end
end PD
set_option Elab.async false
set_option linter.all false
set_option maxRecDepth 100000
set_option maxHeartbeats 2000000
namespace PD
open PySem PySem.Spec PyProof.Rows L2 GxR GenX OwnK
section
variable {ρ : Rho} {KL : List D → Rho → Prop} {Q : D → Prop}
theorem q_rev {m : M D} : Wq (mRev m ρ) KL ↔ Wq (m ρ) fun d ρ1 => Wp (gItems d) fun ds => KL ds.reverse ρ1 := by
  unfold mRev Wq
  cases m ρ with
  | none => simp [W_none]
  | some r =>
    simp only [W_some]
    cases gItems r.1 <;> simp [W_some, W_none]
theorem w_lt2T {ns ms : List Int} (q : Q (.bool (HT.lexLt ns ms))) : Wp (gLt2 (.tuple (ns.map .int)) (.tuple (ms.map .int))) Q := by
  refine ⟨_, ?_, q⟩
  show (match allInts (ns.map .int), allInts (ms.map .int) with | some ns, some ms => some (PyData.bool (HT.lexLt ns ms)) | _, _ => none) = _
  rw [allInts_map, allInts_map]
theorem gLt2_ii (a b : Int) : gLt2 (.int a) (.int b) = some (.bool (decide (a < b))) := rfl
theorem w_neB {a b : Bool} (q : Q (.bool (a != b))) : Wp (gNe (.bool a) (.bool b)) Q := by
  cases a <;> cases b <;> exact ⟨_, if_pos (by decide), by simpa [PyData.eqv] using q⟩
theorem w_neNilI {ns : List Int} (q : Q (.bool (!ns.isEmpty))) : Wp (gNe (.list (ns.map .int)) (.list [])) Q := by
  refine ⟨_, if_pos ?_, ?_⟩
  · rw [(okM_lst (okM_map (xs := ns) fun _ _ => okM_int 0 _)).okE (by decide), show okE (.list []) = true by decide]; rfl
  · have : PyData.eqv (.list (ns.map .int)) (.list []) = ns.isEmpty := by
      cases ns <;> simp [PyData.eqv, PyData.eqvAll]
    rw [this]; exact q
end
end PD
set_option Elab.async false
set_option linter.all false
set_option maxRecDepth 100000
set_option maxHeartbeats 2000000
namespace PD
open PySem PySem.Spec PyProof.Rows L2 GxR GenX OwnK
variable {Q : D → Prop}
theorem gSorted2_tup {ds : List D} (h : ∀ d ∈ ds, tupNe d = true) (hne : ds ≠ []) : gSorted2 [.list ds] = none := by
  cases ds with
  | nil => exact absurd rfl hne
  | cons d r =>
    obtain ⟨x, l, rfl⟩ := tupNe_of (h d List.mem_cons_self)
    rfl
theorem dataLe_id (a b : D) : PySem.W.dataLe false id a b = !PySem.W.dataLt b a := by
  rw [PySem.W.dataLe_eq]; rfl
end PD
set_option Elab.async false
set_option linter.all false
set_option maxRecDepth 100000
set_option maxHeartbeats 2000000
namespace PD
open PySem PySem.Spec PyProof.Rows L2 GxR GenX OwnK
def tdQ (K : List (D × D) → Prop) [Tg K] (d : D) : Prop := match tdE d with
  | some es => K es
  | none => False
section
variable {K : D → Rho → Prop} {KL : List D → Rho → Prop} {ρ : Rho} {Q : D → Prop}
theorem q_items2 {m : M D} : Wq (mItems2 m ρ) KL ↔ Wq (m ρ) fun d ρ1 => Wp (gItems2 d) fun ds => KL ds ρ1 := by
  unfold mItems2 Wq
  cases m ρ with
  | none => simp [W_none]
  | some r =>
    simp only [W_some]
    cases gItems2 r.1 <;> simp [W_some, W_none]
theorem q_pairs {m : M D} : Wq (mPairs m ρ) KL ↔ Wq (m ρ) fun d ρ1 => Wp (gPairs d) fun ds => KL ds ρ1 := by
  unfold mPairs Wq
  cases m ρ with
  | none => simp [W_none]
  | some r =>
    simp only [W_some]
    cases gPairs r.1 <;> simp [W_some, W_none]
theorem gItems2_l {ds : List D} : gItems2 (.list ds) = some ds := rfl
theorem gItems2_t {ds : List D} : gItems2 (.tuple ds) = some ds := rfl
theorem gItems2_d {kvs : List (D × D)} (h : isT kvs = false) : gItems2 (.dict kvs) = some (kvs.map (·.1)) := by
  unfold gItems2
  simp only [h]
theorem gItems2_MS {β : Type} {ev : β → D} {l : List (Str × β)} : gItems2 (.dict (kvM .str ev l)) = some ((l.map (·.1)).map .str) := by
  rw [gItems2_d (isT_MS l), kvM_keys]
theorem gItems2_MI {β : Type} {ev : β → D} {l : List (Int × β)} : gItems2 (.dict (kvM .int ev l)) = some ((l.map (·.1)).map .int) := by
  rw [gItems2_d (isT_MI l), kvM_keys]
theorem gPairs_MS {β : Type} {ev : β → D} {l : List (Str × β)} : gPairs (.dict (kvM .str ev l)) = some (l.map fun p => .tuple [.str p.1, ev p.2]) := by
  show (if isT (kvM PyData.str ev l) = true then none else some ((kvM PyData.str ev l).map fun q => PyData.tuple [q.1, q.2])) = _
  rw [isT_MS]
  unfold kvM
  rw [List.map_map]; rfl
theorem gPairs_MI {β : Type} {ev : β → D} {l : List (Int × β)} : gPairs (.dict (kvM .int ev l)) = some (l.map fun p => .tuple [.int p.1, ev p.2]) := by
  show (if isT (kvM PyData.int ev l) = true then none else some ((kvM PyData.int ev l).map fun q => PyData.tuple [q.1, q.2])) = _
  rw [isT_MI]
  unfold kvM
  rw [List.map_map]; rfl
theorem gItems2_td (fd : List (List Int × D)) : gItems2 (tdOf fd) = some (fd.map fun p => .tuple (p.1.map .int)) := by
  cases fd with
  | nil => rfl
  | cons p r =>
    show some (((p :: r).map eT).map (·.1)) = _
    rw [List.map_map]; rfl
theorem tdQ_of {K : List (D × D) → Prop} {fd : List (List Int × D)} : tdQ K (tdOf fd) ↔ K (fd.map eT) := by
  unfold tdQ; rw [tdE_of]
theorem q_get2T {m1 m2 m3 : M D} : Wq (mGet2T m1 m2 m3 ρ) K ↔ Wq (m1 ρ) fun a ρ1 => tdQ (fun es => Wq (m2 ρ1) fun b ρ2 => Wq (m3 ρ2) fun c ρ3 => Wp (keyT b) fun k => K ((dgetT es k).getD c) ρ3) a := by
  unfold mGet2T Wq
  cases m1 ρ with
  | none => simp [W_none]
  | some r =>
    simp only [W_some]
    unfold tdQ
    cases tdE r.1 with
    | none => simp [W_none]
    | some es =>
      simp only
      cases m2 r.2 with
      | none => simp [W_none]
      | some r2 =>
        simp only [W_some]
        cases m3 r2.2 with
        | none => simp [W_none]
        | some r3 =>
          simp only [W_some]
          cases keyT r2.1 <;> simp [W_some, W_none]
theorem pairsOf_S {β : Type} {ev : β → D} : ∀ l : List (Str × β), pairsOf (l.map fun p => .tuple [.str p.1, ev p.2]) = some (l.map fun p => (.inr p.1, ev p.2))
  | [] => rfl
  | p :: r => by
    show (match keyD (.str p.1), pairsOf (r.map fun p => .tuple [.str p.1, ev p.2]) with
      | some k, some l => some ((k, ev p.2) :: l)
      | _, _ => none) = _
    rw [pairsOf_S r, keyD_s]; rfl
theorem dmerge_S {β : Type} {ev : β → D} : ∀ (l acc : List (Str × β)), dmerge (kvM .str ev acc) (l.map fun p => (.inr p.1, ev p.2)) = kvM .str ev (putAllM l acc)
  | [], acc => rfl
  | p :: r, acc => by
    show dmerge (gPut.dput (kvM .str ev acc) (.inr p.1) (ev p.2)) (r.map fun p => (.inr p.1, ev p.2)) = _
    rw [dput_MS, dmerge_S r]; rfl
theorem w_dictST {β : Type} {ev : β → D} {l : List (Str × β)} (h : (l.map (·.1)).Nodup) (q : Q (.dict (kvM .str ev l))) : Wp (gDictQ (.tuple (l.map fun p => .tuple [.str p.1, ev p.2]))) Q := by
  refine ⟨_, ?_, q⟩
  show (pairsOf _).map _ = _
  rw [pairsOf_S]
  show some (PyData.dict (dmerge (kvM .str ev []) _)) = _
  rw [dmerge_S, putAllM_nd l [] (by simpa using h)]; rfl
def ltS (a b : Str) : Prop := a.cps.toList < b.cps.toList
instance (a b : Str) : Decidable (ltS a b) := inferInstanceAs (Decidable (a.cps.toList < b.cps.toList))
end
end PD
set_option Elab.async false
set_option linter.all false
set_option maxRecDepth 100000
set_option maxHeartbeats 2000000
namespace PD
open PySem PySem.Spec PyProof.Rows L2 GxR GenX OwnK
mutual
def plainT : D → Bool
  | .int _ => true
  | .str _ => true
  | .tuple xs => plainTs xs
  | _ => false
def plainTs : List D → Bool
  | [] => true
  | x :: r => plainT x && plainTs r
end
mutual
theorem plain_eqv : ∀ x y : D, plainT x = true → plainT y = true → PyData.eqv x y = true → x = y
  | .int a, y, p, q, h => by
    cases y with
    | int b => simp [PyData.eqv] at h; rw [h]
    | bool b => simp [plainT] at q
    | _ => simp [PyData.eqv] at h
  | .str a, y, p, q, h => by
    cases y with
    | str b => simp [PyData.eqv] at h; rw [h]
    | _ => simp [PyData.eqv] at h
  | .tuple xs, y, p, q, h => by
    cases y with
    | tuple ys => rw [plain_eqvs xs ys (by simpa [plainT] using p) (by simpa [plainT] using q) (by simpa [PyData.eqv] using h)]
    | _ => simp [PyData.eqv] at h
  | .none, y, p, _, h => by cases p
  | .bool _, y, p, _, h => by cases p
  | .list _, y, p, _, h => by cases p
  | .dict _, y, p, _, h => by cases p
theorem plain_eqvs : ∀ xs ys : List D, plainTs xs = true → plainTs ys = true → PyData.eqvAll xs ys = true → xs = ys
  | [], [], _, _, _ => rfl
  | [], _ :: _, _, _, h => by simp [PyData.eqvAll] at h
  | _ :: _, [], _, _, h => by simp [PyData.eqvAll] at h
  | x :: xs, y :: ys, p, q, h => by
    simp only [plainTs, Bool.and_eq_true] at p q
    simp only [PyData.eqvAll, Bool.and_eq_true] at h
    rw [plain_eqv x y p.1 q.1 h.1, plain_eqvs xs ys p.2 q.2 h.2]
end
mutual
theorem plain_refl : ∀ x : D, plainT x = true → PyData.eqv x x = true
  | .int a, p => by simp [PyData.eqv]
  | .str a, p => by simp [PyData.eqv]
  | .tuple xs, p => by simpa [PyData.eqv] using plain_refls xs (by simpa [plainT] using p)
  | .none, p => by cases p
  | .bool _, p => by cases p
  | .list _, p => by cases p
  | .dict _, p => by cases p
theorem plain_refls : ∀ xs : List D, plainTs xs = true → PyData.eqvAll xs xs = true
  | [], _ => by simp [PyData.eqvAll]
  | x :: xs, p => by
    simp only [plainTs, Bool.and_eq_true] at p
    simp only [PyData.eqvAll, Bool.and_eq_true]
    exact ⟨plain_refl x p.1, plain_refls xs p.2⟩
end
open PySem.W
mutual
theorem toks_inj : ∀ (x y : D) (r r' : List (Int ⊕ List Nat)), cmpD x y = true → plainT x = true → plainT y = true → keyToks x ++ r = keyToks y ++ r' → x = y ∧ r = r'
  | .int a, y, r, r', c, p, q, h => by
    cases y with
    | int b =>
      simp only [keyToks, List.cons_append, List.nil_append, List.cons.injEq, Sum.inl.injEq] at h
      exact ⟨by rw [h.1], h.2⟩
    | _ => cases c
  | .str a, y, r, r', c, p, q, h => by
    cases y with
    | str b =>
      simp only [keyToks, List.cons_append, List.nil_append, List.cons.injEq, Sum.inr.injEq] at h
      exact ⟨by rw [str_of_cps h.1], h.2⟩
    | _ => cases c
  | .tuple xs, y, r, r', c, p, q, h => by
    cases y with
    | tuple ys =>
      have := toksL_inj xs ys r r' (by simpa [cmpD] using c) (by simpa [plainT] using p) (by simpa [plainT] using q) (by simpa [keyToks] using h)
      exact ⟨by rw [this.1], this.2⟩
    | _ => cases c
  | .none, y, _, _, c, p, _, _ => by cases p
  | .bool _, y, _, _, c, p, _, _ => by cases p
  | .list _, y, _, _, c, p, _, _ => by cases p
  | .dict _, y, _, _, c, p, _, _ => by cases p
theorem toksL_inj : ∀ (xs ys : List D) (r r' : List (Int ⊕ List Nat)), cmpL xs ys = true → plainTs xs = true → plainTs ys = true → keyToksAll xs ++ r = keyToksAll ys ++ r' → xs = ys ∧ r = r'
  | [], [], r, r', c, p, q, h => by
    simp only [keyToksAll, List.cons_append, List.nil_append, List.cons.injEq] at h
    exact ⟨rfl, h.2⟩
  | [], y :: ys, r, r', c, p, q, h => by
    simp [keyToksAll] at h
  | x :: xs, [], r, r', c, p, q, h => by
    simp [keyToksAll] at h
  | x :: xs, y :: ys, r, r', c, p, q, h => by
    simp only [plainTs, Bool.and_eq_true] at p q
    simp only [keyToksAll, List.cons_append, List.append_assoc, List.cons.injEq, true_and] at h
    rw [cmpL] at c
    by_cases e : PyData.eqv x y = true
    · rw [if_pos e] at c
      have e1 : x = y := plain_eqv x y p.1 q.1 e
      subst e1
      have h2 := List.append_cancel_left h
      have := toksL_inj xs ys r r' c p.2 q.2 h2
      exact ⟨by rw [this.1], this.2⟩
    · rw [if_neg e] at c
      have := toks_inj x y _ _ c p.1 q.1 h
      rw [this.1] at e
      exact absurd (plain_refl y q.1) e
end
variable {Q : D → Prop}
theorem w_s4of2 {ds : List D} (h : Wp (gSorted2 ds) Q) : Wp (gSorted4 ds) Q := by
  obtain ⟨d, e, q⟩ := h
  exact ⟨d, by unfold gSorted4; rw [e], q⟩
theorem w_sorted4D {ds : List D} (h : okSC ds = true) (q : Q (.list (sortD ds))) : Wp (gSorted4 [.list ds]) Q := by
  refine ⟨_, ?_, q⟩
  unfold gSorted4
  by_cases hne : ds = []
  · subst hne
    have e1 : gSorted2 [.list []] = some (.list []) := by
      unfold gSorted2 gSorted
      have e : sortI [] = [] := List.mergeSort_nil
      show (match (some (PyData.list ((sortI []).map .int)) : Option D) with | some d => some d | none => gSortedS [.list []]) = _
      rw [e]; rfl
    rw [e1]
    have e : sortD [] = [] := List.mergeSort_nil
    rw [e]
  · have ht : ∀ d ∈ ds, tupNe d = true := fun d hd => by
      unfold okSC at h
      rw [Bool.and_eq_true] at h
      have := List.all_eq_true.mp h.2 d hd
      simp only [Bool.and_eq_true] at this
      exact this.1.1.1
    rw [gSorted2_tup ht hne]
    exact if_pos h
section
variable {ρ : Rho} {KL : List D → Rho → Prop} {KD : D → Rho → Prop} {QS : Out → Prop}
theorem q_vals {m : M D} : Wq (mVals m ρ) KL ↔ Wq (m ρ) fun d ρ1 => Wp (gVals d) fun ds => KL ds ρ1 := by
  unfold mVals Wq
  cases m ρ with
  | none => simp [W_none]
  | some r =>
    simp only [W_some]
    cases gVals r.1 <;> simp [W_some, W_none]
theorem q_par0 {i j : Nat} : Wp (mPar0 i j ρ) QS ↔ i < ρ.length ∧ j < ρ.length ∧ QS (.nx ((ρ.set i (some (true, .dict []))).set j (some (true, .dict [])))) := by
  unfold mPar0
  split
  · rename_i h
    simp [W_some, h.1, h.2]
  · rename_i h
    simp only [W_none, false_iff]
    exact fun z => h ⟨z.1, z.2.1⟩
end
theorem gVals_MS {β : Type} {ev : β → D} {l : List (Str × β)} : gVals (.dict (kvM .str ev l)) = some ((l.map (·.2)).map ev) := by
  unfold gVals
  simp only [isT_MS]
  unfold kvM
  simp [Function.comp_def]
theorem gVals_MI {β : Type} {ev : β → D} {l : List (Int × β)} : gVals (.dict (kvM .int ev l)) = some ((l.map (·.2)).map ev) := by
  unfold gVals
  simp only [isT_MI]
  unfold kvM
  simp [Function.comp_def]
theorem allG_map (ns : List Int) : gLe.allInts (ns.map .int) = some ns := by
  induction ns with
  | nil => rfl
  | cons k r ih => rw [List.map_cons, gLe.allInts, ih]; rfl
theorem w_setSort2 {ns : List Int} (h : ns.length < 4000) (h2 : (dedI ns).length < 64) (q : Q (.list ((dedI ns).map .int))) : Wp (gSetSort (.list (ns.map .int))) Q := by
  refine ⟨_, ?_, q⟩
  show (if (ns.map PyData.int).length < 4000 then (gLe.allInts (ns.map .int)).bind fun ns => if (dedI ns).length < 64 then some (PyData.list ((dedI ns).map .int)) else none else none) = _
  rw [List.length_map, if_pos h, allG_map]
  exact if_pos h2
theorem okSC_of {ds : List D} {n : Nat} {T : Value} (hn : n ≤ 60) (h1 : ∀ d ∈ ds, okM n d) (h2 : ∀ d ∈ ds, ∃ a l, d = .tuple (a :: l) ∧ dataType a = T) (h3 : ∀ a ∈ ds, ∀ b ∈ ds, cmpD a b = true) : okSC ds = true := by
  unfold okSC
  simp only [Bool.and_eq_true]
  refine ⟨⟨List.all_eq_true.mpr fun a ha => List.all_eq_true.mpr fun b hb => h3 a ha b hb, List.all_eq_true.mpr fun a ha => List.all_eq_true.mpr fun b hb => ?_⟩, List.all_eq_true.mpr fun d hd => ?_⟩
  · obtain ⟨x, l, rfl, hx⟩ := h2 a ha
    obtain ⟨y, l', rfl, hy⟩ := h2 b hb
    show (dataType x == dataType y) = true
    rw [hx, hy]
    exact beq_self_eq_true _
  · obtain ⟨x, l, rfl, _⟩ := h2 d hd
    have := h1 _ hd
    simp only [Bool.and_eq_true, decide_eq_true_eq]
    exact ⟨⟨⟨rfl, this.1⟩, this.2.1⟩, Nat.le_trans this.2.2 hn⟩
def sortBy {α : Type} (e : α → D) (l : List α) : List α := l.mergeSort fun a b => dataLe false id (e a) (e b)
theorem sortBy_perm {α : Type} (e : α → D) (l : List α) : (sortBy e l).Perm l := List.mergeSort_perm _ _
theorem sortD_map {α : Type} (e : α → D) (l : List α) : sortD (l.map e) = (sortBy e l).map e := by
  unfold sortD sortBy
  exact (List.map_mergeSort (r := fun a b => dataLe false id (e a) (e b)) (s := dataLe false id) (f := e) (l := l) fun a _ b _ => rfl).symm
theorem w_sorted4M {α : Type} {l : List α} {e : α → D} (h : okSC (l.map e) = true) (q : Q (.list ((sortBy e l).map e))) : Wp (gSorted4 [.list (l.map e)]) Q :=
  w_sorted4D h (by rw [sortD_map]; exact q)
def ownLQ (K : List D → Prop) [Tg K] : Option (Option (Bool × D)) → Prop
  | some (some (true, .list ds)) => K ds
  | _ => False
theorem ownLQ_l {K : List D → Prop} {ds : List D} : ownLQ K (some (some (true, .list ds))) ↔ K ds := Iff.rfl
theorem q_lcO {ρ : Rho} {K : D → Rho → Prop} {i : Nat} {g : D → Rho → Option Rho} {mt : M Bool} {me : M D} {vs : List Nat} : Wq (mLcO i g mt me vs ρ) K ↔ ownLQ (fun ds => Wq (lcL g mt me vs ds [] (wipeR (ρ.set i none) vs)) fun s ρ2 => K (.list s) ((wipeR ρ2 vs).set i (some (true, .list ds)))) ρ[i]? := by
  unfold mLcO
  split
  · rename_i ds e
    rw [e, ownLQ_l]
    unfold Wq
    cases lcL g mt me vs ds [] (wipeR (ρ.set i none) vs) with
    | none => simp [W_none]
    | some r => simp only [W_some]
  · rename_i h
    unfold Wq ownLQ
    split
    · rename_i ds e
      exact absurd e (h ds)
    · simp [W_none]
end PD
set_option Elab.async false
set_option linter.all false
set_option maxRecDepth 100000
set_option maxHeartbeats 2000000
namespace PD
open PySem PySem.Spec PyProof.Rows L2 GxR GenX OwnK
open PySem.SeqAt PySem.W
section
variable {Q : D → Prop}
theorem gSorted4_t (ds : List D) : gSorted4 [.tuple ds] = none := rfl
theorem w_s5t {α : Type} {l : List α} {e : α → D} (h : okSC (l.map e) = true) (q : Q (.list ((sortBy e l).map e))) : Wp (gSorted5 [.tuple (l.map e)]) Q := by
  refine ⟨_, ?_, q⟩
  unfold gSorted5
  rw [gSorted4_t, ← sortD_map]
  exact if_pos (.inl h)
end
end PD
set_option Elab.async false
set_option linter.all false
set_option maxRecDepth 100000
set_option maxHeartbeats 2000000
namespace PD
open PySem PySem.Spec PyProof.Rows L2 GxR GenX OwnK
section
variable {ρ : Rho} {K : D → Rho → Prop}
end
end PD
set_option Elab.async false
set_option linter.all false
set_option maxRecDepth 100000
set_option maxHeartbeats 2000000
namespace PD
open PySem PySem.Spec PyProof.Rows L2 GxR GenX OwnK
class KC (κ : Type) where
  key : κ → List Key
  inj : ∀ a b, key a = key b → a = b
section
variable {κ : Type} [KC κ] [DecidableEq κ]
def kcD (k : κ) : D := .tuple ((KC.key k).map kD)
def eG (p : κ × D) : D × D := (kcD p.1, p.2)
def tdG : List (κ × D) → D
  | [] => .dict []
  | p :: r => tdD ((p :: r).map eG)
def getG (fd : List (κ × D)) (k : κ) : Option D := (fd.find? fun p => decide (p.1 = k)).map (·.2)
def putG (fd : List (κ × D)) (k : κ) (d : D) : List (κ × D) := if (getG fd k).isSome then fd.map (fun p => if p.1 = k then (p.1, d) else p) else fd ++ [(k, d)]
theorem keyT_kc (k : κ) : keyT (kcD k) = some (KC.key k) := keyT_keys _
theorem tdE_G (fd : List (κ × D)) : tdE (tdG fd) = some (fd.map eG) := by cases fd <;> rfl
theorem dgetT_G (k : κ) : ∀ fd : List (κ × D), dgetT (fd.map eG) (KC.key k) = getG fd k
  | [] => rfl
  | p :: r => by
    rw [List.map_cons]
    unfold getG dgetT eG
    rw [keyT_kc, List.find?_cons]
    by_cases h : p.1 = k
    · simp [h]
    · have h' : ¬ KC.key p.1 = KC.key k := fun z => h (KC.inj _ _ z)
      simp only [Option.some.injEq, h, h', if_false, decide_false]
      exact dgetT_G k r
theorem tdD_G {l : List (κ × D)} (h : l ≠ []) : tdD (l.map eG) = tdG l := by
  cases l with
  | nil => exact absurd rfl h
  | cons p r => rfl
theorem putG_ne (fd : List (κ × D)) (k : κ) (d : D) : putG fd k d ≠ [] := by
  unfold putG
  split
  · rename_i h
    cases fd with
    | nil => simp [getG] at h
    | cons p r => simp
  · simp
theorem dputT_G (fd : List (κ × D)) (k : κ) (d : D) : dputT (fd.map eG) (KC.key k) d = (putG fd k d).map eG := by
  unfold dputT putG
  rw [dgetT_G]
  split
  · rw [List.map_map, List.map_map]
    refine List.map_congr_left fun p _ => ?_
    simp only [Function.comp, eG, keyT_kc, Option.some.injEq]
    by_cases h : p.1 = k
    · simp [h]
    · have h' : ¬ KC.key p.1 = KC.key k := fun z => h (KC.inj _ _ z)
      simp [h, h']
  · rw [List.map_append]; rfl
variable {Q : D → Prop}
theorem w_putG {fd : List (κ × D)} {k : κ} {d : D} (h : fd.length < 16777216) (q : Q (tdG (putG fd k d))) : Wp (gPutT (tdG fd) (kcD k) d) Q := by
  refine ⟨_, ?_, q⟩
  unfold gPutT
  rw [keyT_kc, tdE_G]
  show (if (fd.map eG).length < sizeLine then some (tdD (dputT (fd.map eG) (KC.key k) d)) else none) = _
  rw [if_pos (by rw [List.length_map]; unfold sizeLine; omega), dputT_G, tdD_G (putG_ne fd k d)]
theorem w_ixG {fd : List (κ × D)} {k : κ} {d : D} (h : getG fd k = some d) (q : Q d) : Wp (gIxT (tdG fd) (kcD k)) Q := by
  refine ⟨_, ?_, q⟩
  unfold gIxT
  rw [keyT_kc, tdE_G]
  show dgetT (fd.map eG) (KC.key k) = _
  rw [dgetT_G, h]
theorem gItems2_G (fd : List (κ × D)) : gItems2 (tdG fd) = some ((fd.map (·.1)).map kcD) := by
  cases fd with
  | nil => rfl
  | cons p r =>
    show some (((p :: r).map eG).map (·.1)) = _
    rw [List.map_map, List.map_map]; rfl
theorem tdQ_G {K : List (D × D) → Prop} {fd : List (κ × D)} : tdQ K (tdG fd) ↔ K (fd.map eG) := by
  unfold tdQ; rw [tdE_G]
theorem w_keyT_G {k : κ} {Q : List Key → Prop} (q : Q (KC.key k)) : Wp (keyT (kcD k)) Q := ⟨_, keyT_kc k, q⟩
theorem w_sortedG {fd : List (κ × D)} (hi : ∀ p ∈ fd, isIK (KC.key p.1) = false) (hok : okSC ((fd.map (·.1)).map kcD) = true) (q : Q (.list (sortD ((fd.map (·.1)).map kcD)))) : Wp (gSortedTX [tdG fd]) Q := by
  have e0 : gSortedT [tdG fd] = none ∨ gSortedT [tdG fd] = some (.list (sortD ((fd.map (·.1)).map kcD))) := by
    cases fd with
    | nil =>
      refine .inr ?_
      show (if ([] : List (List Key)).all isIK = true ∧ okS 1 [] then some (PyData.list ((sortT []).map tupI)) else none) = _
      rw [if_pos ⟨rfl, by decide, by decide, by simp⟩]
      simp [sortD, sortT]
    | cons p r =>
      refine .inl ?_
      unfold gSortedT
      simp only [tdE_G]
      split
      · rename_i ks hk
        rw [if_neg]
        rintro ⟨h1, _⟩
        have : ∃ l, ks = KC.key p.1 :: l := by
          rw [List.map_cons] at hk
          unfold keysT at hk
          rw [show (eG p).1 = kcD p.1 from rfl, keyT_kc] at hk
          split at hk
          · rename_i k l e1 e2
            cases e1
            cases hk
            exact ⟨_, rfl⟩
          · cases hk
        obtain ⟨l, rfl⟩ := this
        have h2 := List.all_eq_true.mp h1 _ List.mem_cons_self
        rw [hi p List.mem_cons_self] at h2
        cases h2
      · rfl
  refine ⟨_, ?_, q⟩
  unfold gSortedTX
  rcases e0 with e0 | e0
  · rw [e0]
    show gSortedTM [tdG fd] = _
    unfold gSortedTM
    simp only [tdE_G]
    have : (fd.map eG).map (·.1) = (fd.map (·.1)).map kcD := by
      rw [List.map_map, List.map_map]; rfl
    rw [this, if_pos hok]
  · rw [e0]
end
section
variable {ρ : Rho} {QS : Out → Prop}
theorem q_parN {i j : Nat} {m : M D} : Wp (mParN i j m ρ) QS ↔ Wq (m ρ) fun d ρ1 => (i < ρ1.length ∧ j < ρ1.length) ∧ QS (.nx ((ρ1.set j (some (false, d))).set i (some (true, .list [])))) := by
  unfold mParN Wq
  cases m ρ with
  | none => simp [W_none]
  | some r =>
    simp only [W_some]
    split
    · rename_i h
      simp [W_some, h]
    · rename_i h
      simp [W_none, h]
end
section
variable {g g1 : D → Rho → Option Rho} {mi mi1 : M (List D)} {mt mt1 : M Bool} {me : M D} {vs vs1 : List Nat} {ρ : Rho}
theorem q_lc2 {K : D → Rho → Prop} : Wq (mLc2 mi g mt mi1 g1 mt1 me vs vs1 ρ) K ↔ Wq (mi ρ) fun ds ρ1 => Wq (lcL2 g mt mi1 g1 mt1 me vs vs1 ds [] (wipeR ρ1 vs)) fun s ρ2 => K (.list s) (wipeR ρ2 vs) := by
  unfold mLc2 Wq
  cases mi ρ with
  | none => simp [W_none]
  | some r =>
    simp only [W_some]
    cases lcL2 g mt mi1 g1 mt1 me vs vs1 r.1 [] (wipeR r.2 vs) <;> simp [W_some, W_none]
theorem lcL_acc {α : Type} (e : α → D) (J : Rho → Prop) (y : α → D) {K : List D → Rho → Prop} : ∀ (xs : List α) (acc : List D) (ρ : Rho), acc.length + xs.length < 16777216 → J ρ →
    (∀ x ∈ xs, ∀ ρ, J ρ → Wp (g (e x) ρ) fun ρ1 => Wq (me ρ1) fun z ρ3 => z = y x ∧ J (wipeR ρ3 vs)) → (∀ ρ, J ρ → K (acc ++ xs.map y) ρ) → Wq (lcL g mYes me vs (xs.map e) acc ρ) K
  | [], acc, ρ, _, hJ, _, hq => q_some.mpr (by simpa using hq ρ hJ)
  | x :: r, acc, ρ, hl, hJ, hs, hq => by
    obtain ⟨ρ1, e1, ⟨z, ρ3⟩, e2, h1, h2⟩ := hs x List.mem_cons_self ρ hJ
    have h1 : z = y x := h1
    have h2 : J (wipeR ρ3 vs) := h2
    simp only [List.length_cons] at hl
    have e0 : lcL g mYes me vs ((x :: r).map e) acc ρ = lcL g mYes me vs (r.map e) (acc ++ [z]) (wipeR ρ3 vs) := by
      rw [List.map_cons]
      conv => lhs; unfold lcL
      rw [e1]
      simp only [mYes, e2]
      rw [if_pos (by unfold sizeLine; omega)]
    rw [e0]
    refine lcL_acc e J y r (acc ++ [z]) _ (by simp; omega) h2 (fun u hu => hs u (List.mem_cons_of_mem _ hu)) fun ρ h => ?_
    have := hq ρ h
    rw [List.map_cons] at this
    rw [h1, List.append_assoc]
    exact this
theorem q_lc2A {α β : Type} (e : α → D) (ys : α → List β) (e2 : β → D) (y : α → β → D) (J : Rho → Prop) (J1 : α → Rho → Prop) (n : Nat) {K : List D → Rho → Prop} : ∀ (xs : List α) (acc : List D) (ρ : Rho), acc.length + xs.length * n < 16777216 → J ρ → (∀ x ∈ xs, (ys x).length ≤ n) →
    (∀ x ∈ xs, ∀ ρ, J ρ → Wp (g (e x) ρ) fun ρ1 => Wq (mi1 ρ1) fun ds ρ2 => ds = (ys x).map e2 ∧ J1 x (wipeR ρ2 vs1)) →
    (∀ x ∈ xs, ∀ z ∈ ys x, ∀ ρ, J1 x ρ → Wp (g1 (e2 z) ρ) fun ρ1 => Wq (me ρ1) fun d ρ2 => d = y x z ∧ J1 x (wipeR ρ2 vs1)) → (∀ x ∈ xs, ∀ ρ, J1 x ρ → J (wipeR ρ vs)) →
    (∀ ρ, J ρ → K (acc ++ xs.flatMap fun x => (ys x).map (y x)) ρ) → Wq (lcL2 g mYes mi1 g1 mYes me vs vs1 (xs.map e) acc ρ) K
  | [], acc, ρ, _, hJ, _, _, _, _, hq => q_some.mpr (by simpa using hq ρ hJ)
  | x :: r, acc, ρ, hl, hJ, hn, hs, h1, h2, hq => by
    obtain ⟨ρ1, e1, ⟨ds, ρ2⟩, e2', k1, k2⟩ := hs x List.mem_cons_self ρ hJ
    have k1 : ds = (ys x).map e2 := k1
    have k2 : J1 x (wipeR ρ2 vs1) := k2
    have hx := hn x List.mem_cons_self
    rw [List.length_cons, Nat.succ_mul] at hl
    have inner : Wq (lcL g1 mYes me vs1 ((ys x).map e2) acc (wipeR ρ2 vs1)) fun acc1 ρ4 => acc1 = acc ++ (ys x).map (y x) ∧ J1 x ρ4 :=
      lcL_acc e2 (J1 x) (y x) (ys x) acc _ (by omega) k2 (fun z hz => h1 x List.mem_cons_self z hz) fun ρ h => ⟨rfl, h⟩
    obtain ⟨⟨acc1, ρ4⟩, e3, k3, k4⟩ := inner
    have k3 : acc1 = acc ++ (ys x).map (y x) := k3
    have k4 : J1 x ρ4 := k4
    have e0 : lcL2 g mYes mi1 g1 mYes me vs vs1 ((x :: r).map e) acc ρ = lcL2 g mYes mi1 g1 mYes me vs vs1 (r.map e) acc1 (wipeR ρ4 vs) := by
      rw [List.map_cons]
      conv => lhs; unfold lcL2
      rw [e1]
      have e3' : lcL g1 mYes me vs1 ds acc (wipeR ρ2 vs1) = some (acc1, ρ4) := by rw [k1]; exact e3
      simp only [mYes, e2', e3']
    rw [e0]
    refine q_lc2A e ys e2 y J J1 n r acc1 _ (by rw [k3, List.length_append, List.length_map]; omega) (h2 x List.mem_cons_self _ k4) (fun u hu => hn u (List.mem_cons_of_mem _ hu)) (fun u hu => hs u (List.mem_cons_of_mem _ hu)) (fun u hu => h1 u (List.mem_cons_of_mem _ hu)) (fun u hu => h2 u (List.mem_cons_of_mem _ hu)) fun ρ h => ?_
    have := hq ρ h
    rw [List.flatMap_cons, ← List.append_assoc] at this
    rw [k3]
    exact this
end
theorem nodup_sub {α : Type} [DecidableEq α] : ∀ {l L : List α}, l.Nodup → (∀ x ∈ l, x ∈ L) → l.length ≤ L.length
  | [], _, _, _ => Nat.zero_le _
  | a :: r, L, h, hs => by
    rw [List.nodup_cons] at h
    have ha := hs a List.mem_cons_self
    have := nodup_sub (L := L.erase a) h.2 fun x hx => (List.mem_erase_of_ne (fun e : x = a => h.1 (by rw [← e]; exact hx))).mpr (hs x (List.mem_cons_of_mem _ hx))
    rw [List.length_erase_of_mem ha] at this
    have := List.length_pos_of_mem ha
    rw [List.length_cons]
    omega
theorem sort_ded {ks ns : List Int} (h : ks.Nodup) (hm : ∀ z, z ∈ ks ↔ z ∈ ns) : sortI ks = dedI ns := by
  have hd := dedI_rise ns
  have p : ks.Perm (dedI ns) := (List.perm_ext_iff_of_nodup h (hd.imp fun h => Int.ne_of_lt h)).mpr fun z => by rw [dedI_mem]; exact hm z
  exact sorted_uniq ((sortI_perm ks).trans p) (sortI_sorted ks) (hd.imp fun h => Int.le_of_lt h)
end PD
set_option Elab.async false
set_option linter.all false
set_option maxRecDepth 100000
set_option maxHeartbeats 4000000
namespace PD
open PySem PySem.Spec PyProof.Rows L2 GxR GenX OwnK PD
theorem tb5 : (type_of% @PD.q_runD) ∧ (type_of% @PD.q_runN) ∧ (type_of% @PD.W_seq) ∧ (type_of% @PD.q_asg) ∧ (type_of% @PD.q_ifS) ∧ (type_of% @PD.q_ret) ∧ (type_of% @PD.q_drop) ∧ (type_of% @PD.W_next) ∧ (type_of% @PD.W_break) ∧ (type_of% @PD.W_cont) ∧ (type_of% @PD.q_for) ∧ (type_of% @PD.q_put) ∧ (type_of% @PD.q_aug) ∧ (type_of% @PD.q_augL) ∧ (type_of% @PD.q_mut) ∧ (type_of% @PD.q_par) ∧ (type_of% @PD.q_bin) ∧ (type_of% @PD.q_un) ∧ (type_of% @PD.q_app) ∧ (type_of% @PD.q_nil) ∧ (type_of% @PD.q_cons) ∧ (type_of% @PD.q_consIo) ∧ (type_of% @PD.q_call) ∧ (type_of% @PD.q_callK) ∧ (type_of% @PD.q_tab) ∧ (type_of% @PD.q_if) ∧ (type_of% @PD.q_andT) ∧ (type_of% @PD.q_orT) ∧ (type_of% @PD.q_notT) ∧ (type_of% @PD.q_andV) ∧ (type_of% @PD.q_orV) ∧ (type_of% @PD.q_notV) ∧ (type_of% @PD.q_mB) ∧ (type_of% @PD.q_mP) ∧ (type_of% @PD.q_noP) ∧ (type_of% @PD.q_sl) ∧ (type_of% @PD.q_items) ∧ (type_of% @PD.q_range) ∧ (type_of% @PD.q_chain) ∧ (type_of% @PD.q_get2) ∧ (type_of% @PD.q_items2) ∧ (type_of% @PD.q_pairs) ∧ (type_of% @PD.q_vals) ∧ (type_of% @PD.gVals_MS) ∧ (type_of% @PD.gVals_MI) ∧ (type_of% @PD.q_par0) ∧ (type_of% @PD.q_lcO) ∧ (type_of% @PD.ownLQ_l) ∧ (type_of% @PD.q_get2T) ∧ (type_of% @PD.tdQ_of) ∧ (type_of% @PD.gItems2_l) ∧ (type_of% @PD.gItems2_t) ∧ (type_of% @PD.gItems2_MS) ∧ (type_of% @PD.gItems2_MI) ∧ (type_of% @PD.gItems2_td) ∧ (type_of% @PD.gPairs_MS) ∧ (type_of% @PD.gPairs_MI) ∧ (type_of% @PD.keyT_ints) ∧ (type_of% @PD.dgetT_map) ∧ (type_of% @PD.q_lc) ∧ (type_of% @PD.q_dc) ∧ (type_of% @PD.q_an) ∧ (type_of% @PD.q_su) ∧ (type_of% @PD.q_mC) ∧ (type_of% @PD.q_rev) ∧ (type_of% @PD.gLt2_ii) ∧ (type_of% @PD.q_putT) ∧ (type_of% @PD.q_dcTo) ∧ (type_of% @PD.q_bag) ∧ (type_of% @PD.q_bagLen) ∧ (type_of% @PD.q_bagPop) ∧ (type_of% @PD.q_bagPut) ∧ (type_of% @PD.q_ext) ∧ (type_of% @PD.q_mut0) ∧ (type_of% @PD.q_star) ∧ (type_of% @PD.q_runB) ∧ (type_of% @PD.q_seqB) ∧ (type_of% @PD.q_retB) ∧ (type_of% @PD.bagQ_eq) ∧ (type_of% @PD.listQ_eq) ∧ (type_of% @PD.bagK_0) ∧ (type_of% @PD.bagK_1) ∧ (type_of% @PD.bagK_3) ∧ (type_of% @PD.bagP_0) ∧ (type_of% @PD.bagP_1) ∧ (type_of% @PD.gRevL_l) ∧ (type_of% @PD.gRev_l) ∧ (type_of% @PD.gSeq_l) ∧ (type_of% @PD.gSeq_t) ∧ (type_of% @PD.gListOf2_l) ∧ (type_of% @PD.gListOf2_t) ∧ (type_of% @PD.tup2Q_eq) ∧ (type_of% @PD.W_some) ∧ (type_of% @PD.W_none) ∧ (type_of% @PD.W_ite) ∧ (type_of% @PD.q_some) ∧ (type_of% @PD.q_none) ∧ (type_of% @PD.q_ite) ∧ (type_of% @PD.W_map) ∧ (type_of% @PD.W_bind) ∧ (type_of% @PD.bcs_true) ∧ (type_of% @PD.bcs_false) ∧ (type_of% @PD.bcs_dec) ∧ (type_of% @PD.bcs_not) ∧ (type_of% @PD.seqQ_nx) ∧ (type_of% @PD.seqQ_rt) ∧ (type_of% @PD.seqQ_bk) ∧ (type_of% @PD.seqQ_ct) ∧ (type_of% @PD.forQ_nx) ∧ (type_of% @PD.forQ_rt) ∧ (type_of% @PD.forQ_bk) ∧ (type_of% @PD.forQ_ct) ∧ (type_of% @PD.rQ_nx) ∧ (type_of% @PD.rQ_rt) ∧ (type_of% @PD.rQN_rt) ∧ (type_of% @PD.boolQ_bool) ∧ (type_of% @PD.intQ_int) ∧ (type_of% @PD.strQ_str) ∧ (type_of% @PD.dictQ_dict) ∧ (type_of% @PD.ownQ_true) ∧ (type_of% @PD.borQ_false) ∧ (type_of% @PD.list2Q_eq) ∧ (type_of% @PD.mFrz_eq) ∧ (type_of% @PD.isBg_l) ∧ (type_of% @PD.isBg_d) ∧ (type_of% @PD.isBg_t) ∧ (type_of% @PD.isBg_td) ∧ (type_of% @PD.putBack_none) ∧ (type_of% @PD.putBack_n2) ∧ (type_of% @PD.putBack_n3) ∧ (type_of% @PD.isi_b_n) ∧ (type_of% @PD.isi_b_b) ∧ (type_of% @PD.isi_b_i) ∧ (type_of% @PD.isi_b_s) ∧ (type_of% @PD.isi_b_t) ∧ (type_of% @PD.isi_b_l) ∧ (type_of% @PD.isi_i_n) ∧ (type_of% @PD.isi_i_b) ∧ (type_of% @PD.isi_i_i) ∧ (type_of% @PD.isi_i_s) ∧ (type_of% @PD.isi_i_t) ∧ (type_of% @PD.isi_i_l) ∧ (type_of% @PD.isi_s_n) ∧ (type_of% @PD.isi_s_b) ∧ (type_of% @PD.isi_s_i) ∧ (type_of% @PD.isi_s_s) ∧ (type_of% @PD.isi_s_t) ∧ (type_of% @PD.isi_s_l) ∧ (type_of% @PD.isi_t_n) ∧ (type_of% @PD.isi_t_b) ∧ (type_of% @PD.isi_t_i) ∧ (type_of% @PD.isi_t_s) ∧ (type_of% @PD.isi_t_t) ∧ (type_of% @PD.isi_t_l) ∧ (type_of% @PD.isN_n) ∧ (type_of% @PD.isN_b) ∧ (type_of% @PD.isN_i) ∧ (type_of% @PD.isN_s) ∧ (type_of% @PD.isN_t) ∧ (type_of% @PD.isN_l) ∧ (type_of% @Bool.false_eq_true) ∧ (type_of% @PD.mVar.eq_1) ∧ (type_of% @PD.mOwn.eq_1) ∧ (type_of% @PD.mYes.eq_1) ∧ (type_of% @PD.gSet.eq_1) ∧ (type_of% @PD.gOwn.eq_1) ∧ (type_of% @PD.gTupT.eq_1) ∧ (type_of% @PD.gTupT.eq_2) ∧ (type_of% @PD.gsCons.eq_1) ∧ (type_of% @PD.gsCons.eq_2) ∧ (type_of% @PD.gsNil.eq_1) ∧ (type_of% @PD.gsNil.eq_2) ∧ (type_of% @PD.putBack.eq_1) ∧ (type_of% @PD.putBack.eq_2) ∧ (type_of% @PD.putBack.eq_3) ∧ (type_of% @PD.wipeR.eq_1) ∧ (type_of% @PD.wipeR.eq_2) ∧ (type_of% @PD.startR.eq_1) ∧ (type_of% @PD.ioR.eq_1) ∧ (type_of% @PD.ioR.eq_2) ∧ (type_of% @PD.backR_eq) ∧ (type_of% @PD.backRl.eq_1) ∧ (type_of% @PD.backRl.eq_2) ∧ (type_of% @PD.backRl.eq_3) ∧ (type_of% @PD.slotD_some) ∧ (type_of% @PD.slotD_none) ∧ (type_of% @PD.gAdd_ii) ∧ (type_of% @PD.gSub_ii) ∧ (type_of% @PD.gAddI.eq_1) ∧ (type_of% @PD.gAddI.eq_2) ∧ (type_of% @PD.gSubI.eq_1) ∧ (type_of% @PD.gSubI.eq_2) ∧ (type_of% @PD.gLt.eq_1) ∧ (type_of% @PD.gLt.eq_2) ∧ (type_of% @PD.gLt.eq_3) ∧ (type_of% @PD.gLe.eq_1) ∧ (type_of% @PD.gLe.eq_2) ∧ (type_of% @PD.gLe.eq_3) ∧ (type_of% @PD.gLe.eq_4) ∧ (type_of% @PD.gGt.eq_1) ∧ (type_of% @PD.gGt.eq_2) ∧ (type_of% @PD.gGt.eq_3) ∧ (type_of% @PD.gGe.eq_1) ∧ (type_of% @PD.gGe.eq_2) ∧ (type_of% @PD.gGe.eq_3) ∧ (type_of% @PD.gEq_ii) ∧ (type_of% @PD.gNe_ii) ∧ (type_of% @PD.gInt.eq_1) ∧ (type_of% @PD.gInt.eq_2) ∧ (type_of% @PD.gInt.eq_3) ∧ (type_of% @PD.gLen_l) ∧ (type_of% @PD.gLen_t) ∧ (type_of% @PD.gLen_d) ∧ (type_of% @PD.gAbs.eq_1) ∧ (type_of% @PD.gAbs.eq_2) ∧ (type_of% @PD.gMax2.eq_1) ∧ (type_of% @PD.gMax2.eq_2) ∧ (type_of% @PD.gMin2.eq_1) ∧ (type_of% @PD.gMin2.eq_2) ∧ (type_of% @PD.keyD_i) ∧ (type_of% @PD.keyD_s) ∧ (type_of% @PD.gItems_l) ∧ (type_of% @PD.gItems_t) ∧ (type_of% @PD.gNeg.eq_1) ∧ (type_of% @PD.gNeg.eq_2) ∧ (type_of% @PD.gListOf.eq_1) ∧ (type_of% @PD.gListOf.eq_2) ∧ (type_of% @PD.gListOf.eq_3) ∧ (type_of% @PD.gListOf.eq_4) ∧ (type_of% @PD.gTupOf.eq_1) ∧ (type_of% @PD.gTupOf.eq_2) ∧ (type_of% @PD.gTupOf.eq_3) ∧ (type_of% @PD.gSl_l) ∧ (type_of% @PD.gSl_t) ∧ (type_of% @PD.gIs.eq_1) ∧ (type_of% @PD.gIs.eq_2) ∧ (type_of% @PD.gIs.eq_3) ∧ (type_of% @PD.gIsNot.eq_1) ∧ (type_of% @PD.gIsNot.eq_2) ∧ (type_of% @PD.gIsNot.eq_3) ∧ (type_of% @PD.isN.eq_1) ∧ (type_of% @PD.isN.eq_2) ∧ (type_of% @PD.gMul_s0) ∧ (type_of% @PD.gMul_s1) ∧ (type_of% @PD.gIxL.eq_1) ∧ (type_of% @PD.gIxL.eq_2) ∧ (type_of% @PD.gIx_l) ∧ (type_of% @PD.gIx_t) ∧ (type_of% @PD.gIx_di) ∧ (type_of% @PD.gIx_ds) ∧ (type_of% @PD.gPow_1018) ∧ (type_of% @PD.atI_0) ∧ (type_of% @PD.atI_1) ∧ (type_of% @PD.atI_2) ∧ (type_of% @PD.atI_3) ∧ (type_of% @PD.atI_4) ∧ (type_of% @PD.atI_5) ∧ (type_of% @PD.atI_6) ∧ (type_of% @PD.atI_7) ∧ (type_of% @PD.gPutL_0) ∧ (type_of% @PD.gPutL_1) ∧ (type_of% @PD.gPutL_2) ∧ (type_of% @PD.gPutL_3) ∧ (type_of% @PD.gPutL_4) ∧ (type_of% @PD.gPutL_5) ∧ (type_of% @Nat.zero_add) ∧ (type_of% @Nat.lt_add_one) ∧ (type_of% @Nat.succ_eq_add_one) ∧ (type_of% @or_false) ∧ (type_of% @or_true) ∧ (type_of% @true_and) ∧ (type_of% @and_true) ∧ (type_of% @not_true_eq_false) ∧ (type_of% @not_false_eq_true) ∧ (type_of% @decide_true) ∧ (type_of% @decide_false) ∧ (type_of% @decide_eq_true_eq) :=
  ⟨@PD.q_runD, @PD.q_runN, @PD.W_seq, @PD.q_asg, @PD.q_ifS, @PD.q_ret, @PD.q_drop, @PD.W_next, @PD.W_break, @PD.W_cont, @PD.q_for, @PD.q_put, @PD.q_aug, @PD.q_augL, @PD.q_mut, @PD.q_par, @PD.q_bin, @PD.q_un, @PD.q_app, @PD.q_nil, @PD.q_cons, @PD.q_consIo, @PD.q_call, @PD.q_callK, @PD.q_tab, @PD.q_if, @PD.q_andT, @PD.q_orT, @PD.q_notT, @PD.q_andV, @PD.q_orV, @PD.q_notV, @PD.q_mB, @PD.q_mP, @PD.q_noP, @PD.q_sl, @PD.q_items, @PD.q_range, @PD.q_chain, @PD.q_get2, @PD.q_items2, @PD.q_pairs, @PD.q_vals, @PD.gVals_MS, @PD.gVals_MI, @PD.q_par0, @PD.q_lcO, @PD.ownLQ_l, @PD.q_get2T, @PD.tdQ_of, @PD.gItems2_l, @PD.gItems2_t, @PD.gItems2_MS, @PD.gItems2_MI, @PD.gItems2_td, @PD.gPairs_MS, @PD.gPairs_MI, @PD.keyT_ints, @PD.dgetT_map, @PD.q_lc, @PD.q_dc, @PD.q_an, @PD.q_su, @PD.q_mC, @PD.q_rev, @PD.gLt2_ii, @PD.q_putT, @PD.q_dcTo, @PD.q_bag, @PD.q_bagLen, @PD.q_bagPop, @PD.q_bagPut, @PD.q_ext, @PD.q_mut0, @PD.q_star, @PD.q_runB, @PD.q_seqB, @PD.q_retB, @PD.bagQ_eq, @PD.listQ_eq, @PD.bagK_0, @PD.bagK_1, @PD.bagK_3, @PD.bagP_0, @PD.bagP_1, @PD.gRevL_l, @PD.gRev_l, @PD.gSeq_l, @PD.gSeq_t, @PD.gListOf2_l, @PD.gListOf2_t, @PD.tup2Q_eq, @PD.W_some, @PD.W_none, @PD.W_ite, @PD.q_some, @PD.q_none, @PD.q_ite, @PD.W_map, @PD.W_bind, @PD.bcs_true, @PD.bcs_false, @PD.bcs_dec, @PD.bcs_not, @PD.seqQ_nx, @PD.seqQ_rt, @PD.seqQ_bk, @PD.seqQ_ct, @PD.forQ_nx, @PD.forQ_rt, @PD.forQ_bk, @PD.forQ_ct, @PD.rQ_nx, @PD.rQ_rt, @PD.rQN_rt, @PD.boolQ_bool, @PD.intQ_int, @PD.strQ_str, @PD.dictQ_dict, @PD.ownQ_true, @PD.borQ_false, @PD.list2Q_eq, @PD.mFrz_eq, @PD.isBg_l, @PD.isBg_d, @PD.isBg_t, @PD.isBg_td, @PD.putBack_none, @PD.putBack_n2, @PD.putBack_n3, @PD.isi_b_n, @PD.isi_b_b, @PD.isi_b_i, @PD.isi_b_s, @PD.isi_b_t, @PD.isi_b_l, @PD.isi_i_n, @PD.isi_i_b, @PD.isi_i_i, @PD.isi_i_s, @PD.isi_i_t, @PD.isi_i_l, @PD.isi_s_n, @PD.isi_s_b, @PD.isi_s_i, @PD.isi_s_s, @PD.isi_s_t, @PD.isi_s_l, @PD.isi_t_n, @PD.isi_t_b, @PD.isi_t_i, @PD.isi_t_s, @PD.isi_t_t, @PD.isi_t_l, @PD.isN_n, @PD.isN_b, @PD.isN_i, @PD.isN_s, @PD.isN_t, @PD.isN_l, @Bool.false_eq_true, @PD.mVar.eq_1, @PD.mOwn.eq_1, @PD.mYes.eq_1, @PD.gSet.eq_1, @PD.gOwn.eq_1, @PD.gTupT.eq_1, @PD.gTupT.eq_2, @PD.gsCons.eq_1, @PD.gsCons.eq_2, @PD.gsNil.eq_1, @PD.gsNil.eq_2, @PD.putBack.eq_1, @PD.putBack.eq_2, @PD.putBack.eq_3, @PD.wipeR.eq_1, @PD.wipeR.eq_2, @PD.startR.eq_1, @PD.ioR.eq_1, @PD.ioR.eq_2, @PD.backR_eq, @PD.backRl.eq_1, @PD.backRl.eq_2, @PD.backRl.eq_3, @PD.slotD_some, @PD.slotD_none, @PD.gAdd_ii, @PD.gSub_ii, @PD.gAddI.eq_1, @PD.gAddI.eq_2, @PD.gSubI.eq_1, @PD.gSubI.eq_2, @PD.gLt.eq_1, @PD.gLt.eq_2, @PD.gLt.eq_3, @PD.gLe.eq_1, @PD.gLe.eq_2, @PD.gLe.eq_3, @PD.gLe.eq_4, @PD.gGt.eq_1, @PD.gGt.eq_2, @PD.gGt.eq_3, @PD.gGe.eq_1, @PD.gGe.eq_2, @PD.gGe.eq_3, @PD.gEq_ii, @PD.gNe_ii, @PD.gInt.eq_1, @PD.gInt.eq_2, @PD.gInt.eq_3, @PD.gLen_l, @PD.gLen_t, @PD.gLen_d, @PD.gAbs.eq_1, @PD.gAbs.eq_2, @PD.gMax2.eq_1, @PD.gMax2.eq_2, @PD.gMin2.eq_1, @PD.gMin2.eq_2, @PD.keyD_i, @PD.keyD_s, @PD.gItems_l, @PD.gItems_t, @PD.gNeg.eq_1, @PD.gNeg.eq_2, @PD.gListOf.eq_1, @PD.gListOf.eq_2, @PD.gListOf.eq_3, @PD.gListOf.eq_4, @PD.gTupOf.eq_1, @PD.gTupOf.eq_2, @PD.gTupOf.eq_3, @PD.gSl_l, @PD.gSl_t, @PD.gIs.eq_1, @PD.gIs.eq_2, @PD.gIs.eq_3, @PD.gIsNot.eq_1, @PD.gIsNot.eq_2, @PD.gIsNot.eq_3, @PD.isN.eq_1, @PD.isN.eq_2, @PD.gMul_s0, @PD.gMul_s1, @PD.gIxL.eq_1, @PD.gIxL.eq_2, @PD.gIx_l, @PD.gIx_t, @PD.gIx_di, @PD.gIx_ds, @PD.gPow_1018, @PD.atI_0, @PD.atI_1, @PD.atI_2, @PD.atI_3, @PD.atI_4, @PD.atI_5, @PD.atI_6, @PD.atI_7, @PD.gPutL_0, @PD.gPutL_1, @PD.gPutL_2, @PD.gPutL_3, @PD.gPutL_4, @PD.gPutL_5, @Nat.zero_add, @Nat.lt_add_one, @Nat.succ_eq_add_one, @or_false, @or_true, @true_and, @and_true, @not_true_eq_false, @not_false_eq_true, @decide_true, @decide_false, @decide_eq_true_eq⟩
end PD
set_option Elab.async false
set_option linter.all false
set_option maxRecDepth 100000
set_option maxHeartbeats 2000000
namespace PD
open PySem PySem.Spec PyProof.Rows L2 GxR GenX OwnK
def TabsOf (q : Program) (K : PySem.W.Frag) (h : Heap) : Prop := ∀ (x : Str) (c P : Addr), ((recsOf q).any fun e => e.name == x) = true → PySem.W.tabIn K x = some (c, P) → PySem.W.CodeHd h c P ∧ h.get? P = some { cls := .none, data := .fields #[] }
theorem walk_ofTabs {l : PySem.W.OpenLaw} {n k : Nat} {q : Program} {loose : List Str} {XP : (Str → Option Value) → Heap → Prop} {YP : World → Heap → Prop} {d : DefRec} {K : Params → PySem.W.Frag} {CX : World → CXT} {x : Str}
    (hn : l.most = some n) (hn2 : n ≤ sizeLine) (hdf : d.params.defaults = []) (hr : Room k callerA) (hY : ∀ (w : World) (h : Heap), YP w h → (K w.params).In h)
    (F : ∀ (w : World) (mg : Str → Option Value) (fa : Addr) (h : Heap), (K w.params).In h → h.Ns mainGlobals mg → mg d.name = some (.ref fa) → TabsOf q (K w.params) h → LamX.LawAtS l w (K w.params) (CX w) k n x mg fa h)
    (hCX : ∀ (w : World) (H : Hp) (s : Shared) (e : Value) (s' : Shared), CX w [] H s (fun _ _ _ => False) e s' → False) :
    PySem.W.WalkO q loose XP YP l.row.toRowW d [] (fun f vs => PySem.call f vs) := by
  refine Att.attach_callB hn hdf fun w s₀ s₁ mg mb fa o pm cd doc a vs ns G Y ho hd hcd hmg hobj hints hlen hbits hg => ?_
  have KX := hY w _ Y
  have tb : TabsOf q (K w.params) s₁.heap := fun x c P hx ht => by
    obtain ⟨dL, hm, hn1⟩ := List.any_eq_true.mp hx
    cases hf : (recsOf q).find? (fun e : DefRec => e.name == x) with
    | none => exact absurd hn1 (by simpa using List.find?_eq_none.mp hf dL hm)
    | some d' => exact PySem.W.tab_of G.T KX hf ht
  obtain ⟨fd, cs, sp, hT, nT, C, hb, hsp, hF⟩ := F w mg fa _ KX G.T.g hmg tb
  exact LamX.law_callTs KX G.T.g G.T.b G.T.builtins G.T.nolimit hg hT nT C G.T.bmain hobj hints (Nat.le_trans hlen hn2) hr hF hb (fun H hH hS => hsp H a ns hlen hbits hH hS) fun H e s' => hCX w H s₁ e s'
theorem rels_ints2 {K : KWd} {S : Addr → Prop} {H : Hp} : ∀ ns : List Int, RelDs K S H (ns.map V.int) (ns.map .int)
  | [] => .nil
  | n :: r => .cons (.int n) (rels_ints2 r)
theorem law_sp {K : KWd} {T : List Addr} {n : Nat} {f : List D → Option (D × List D)} (hf : ∀ ns : List Int, ns.length ≤ n → ∃ es, f [.list (ns.map .int)] = some (.bool true, es) ∧ es.length = 1) (H : Hp) (a : Addr) (ns : List Int) (hl : ns.length ≤ n)
    (hT : ∀ P ∈ T, H P = some (.tbl #[])) (hS : SqL K H a (ns.map V.int)) : spD K T [] 1 f [.ref a] H (fun v _ => v = .bl true) fun _ _ _ => False := by
  obtain ⟨es, e, h1⟩ := hf ns hl
  have hr : RelD K (fun _ => False) H (.ref a) (.list (ns.map .int)) := by
    rcases hS with h | h
    · exact .lst (fun z => z) h (rels_ints2 ns)
    · exact .lstK h (rels_ints2 ns)
  refine ⟨fun _ => False, fun _ => a, [.list (ns.map .int)], .bool true, es, e, rfl, h1, ⟨rfl, fun j v d e1 e2 => ⟨(fun z => absurd z List.not_mem_nil), (fun _ => ?_)⟩, (fun j z => absurd z List.not_mem_nil), (fun i z => absurd z List.not_mem_nil)⟩, fun _ z => z.elim, fun P hP => TabN.nil (hT P hP), fun v H' _ _ r => ?_⟩
  · cases j with
    | zero => cases e1; cases e2; exact hr
    | succ j => cases e1
  · cases r; rfl
end PD
set_option Elab.async false
set_option linter.all false
set_option maxRecDepth 100000
set_option maxHeartbeats 4000000
namespace K17W
open PySem PySem.Spec PyProof.Rows L2 GxR GenX OwnK PD
def top (i : Nat) : Stmt := PySem.Challenge.pw_aswritten_k17_telling_rows_of_sums.main.body.getD i (.Pass ⟨0, 0, 0, 0⟩)
abbrev s_domains_of : Stmt := top 7
abbrev N_domains_of : List Str := ["model", "name", "domain"]
abbrev P_domains_of : List Str := ["model"]
theorem sc_domains_of : FnScope N_domains_of P_domains_of (defScope s_domains_of) := ⟨rfl, rfl, rfl, by decide +kernel, rfl, by decide +kernel, by decide +kernel⟩
abbrev s_said_in : Stmt := top 8
abbrev N_said_in : List Str := ["model", "said", "name", "saying", "_"]
abbrev P_said_in : List Str := ["model"]
theorem sc_said_in : FnScope N_said_in P_said_in (defScope s_said_in) := ⟨rfl, rfl, rfl, by decide +kernel, rfl, by decide +kernel, by decide +kernel⟩
abbrev s_prices_of : Stmt := top 9
abbrev N_prices_of : List Str := ["model", "name", "_", "price"]
abbrev P_prices_of : List Str := ["model"]
theorem sc_prices_of : FnScope N_prices_of P_prices_of (defScope s_prices_of) := ⟨rfl, rfl, rfl, by decide +kernel, rfl, by decide +kernel, by decide +kernel⟩
abbrev s_norm : Stmt := top 12
abbrev N_norm : List Str := ["pairs", "least", "weights", "sign", "wanted", "c", "parts"]
abbrev P_norm : List Str := ["pairs", "least"]
theorem sc_norm : FnScope N_norm P_norm (defScope s_norm) := ⟨rfl, rfl, rfl, by decide +kernel, rfl, by decide +kernel, by decide +kernel⟩
abbrev s_upward : Stmt := top 15
abbrev N_upward : List Str := ["domains", "x", "value", "at", "own"]
abbrev P_upward : List Str := ["domains", "x", "value"]
theorem sc_upward : FnScope N_upward P_upward (defScope s_upward) := ⟨rfl, rfl, rfl, by decide +kernel, rfl, by decide +kernel, by decide +kernel⟩
abbrev s_at_most : Stmt := top 17
abbrev N_at_most : List Str := ["signs", "many", "sign"]
abbrev P_at_most : List Str := ["signs", "many"]
theorem sc_at_most : FnScope N_at_most P_at_most (defScope s_at_most) := ⟨rfl, rfl, rfl, by decide +kernel, rfl, by decide +kernel, by decide +kernel⟩
abbrev s_at_least : Stmt := top 18
abbrev N_at_least : List Str := ["signs", "many", "sign"]
abbrev P_at_least : List Str := ["signs", "many"]
theorem sc_at_least : FnScope N_at_least P_at_least (defScope s_at_least) := ⟨rfl, rfl, rfl, by decide +kernel, rfl, by decide +kernel, by decide +kernel⟩
abbrev s_value_pairs : Stmt := top 19
abbrev N_value_pairs : List Str := ["domains", "x", "weight", "domain", "at"]
abbrev P_value_pairs : List Str := ["domains", "x", "weight"]
theorem sc_value_pairs : FnScope N_value_pairs P_value_pairs (defScope s_value_pairs) := ⟨rfl, rfl, rfl, by decide +kernel, rfl, by decide +kernel, by decide +kernel⟩
abbrev s_upward_pairs : Stmt := top 20
abbrev N_upward_pairs : List Str := ["domains", "x", "value", "weight", "sign"]
abbrev P_upward_pairs : List Str := ["domains", "x", "value", "weight"]
theorem sc_upward_pairs : FnScope N_upward_pairs P_upward_pairs (defScope s_upward_pairs) := ⟨rfl, rfl, rfl, by decide +kernel, rfl, by decide +kernel, by decide +kernel⟩
abbrev s_sum_row : Stmt := top 21
abbrev N_sum_row : List Str := ["domains", "terms", "least", "pairs", "x", "weight"]
abbrev P_sum_row : List Str := ["domains", "terms", "least"]
theorem sc_sum_row : FnScope N_sum_row P_sum_row (defScope s_sum_row) := ⟨rfl, rfl, rfl, by decide +kernel, rfl, by decide +kernel, by decide +kernel⟩
abbrev s_with_part : Stmt := top 22
abbrev N_with_part : List Str := ["row", "side", "parts", "least"]
abbrev P_with_part : List Str := ["row", "side"]
theorem sc_with_part : FnScope N_with_part P_with_part (defScope s_with_part) := ⟨rfl, rfl, rfl, by decide +kernel, rfl, by decide +kernel, by decide +kernel⟩
abbrev s_values_of : Stmt := top 24
abbrev N_values_of : List Str := ["domains", "names", "name", "value"]
abbrev P_values_of : List Str := ["domains", "names"]
theorem sc_values_of : FnScope N_values_of P_values_of (defScope s_values_of) := ⟨rfl, rfl, rfl, by decide +kernel, rfl, by decide +kernel, by decide +kernel⟩
abbrev s_having : Stmt := top 25
abbrev N_having : List Str := ["domains", "names", "value", "name"]
abbrev P_having : List Str := ["domains", "names", "value"]
theorem sc_having : FnScope N_having P_having (defScope s_having) := ⟨rfl, rfl, rfl, by decide +kernel, rfl, by decide +kernel, by decide +kernel⟩
abbrev s_tell_least : Stmt := top 26
abbrev N_tell_least : List Str := ["domains", "s", "saying"]
abbrev P_tell_least : List Str := ["domains", "s", "saying"]
theorem sc_tell_least : FnScope N_tell_least P_tell_least (defScope s_tell_least) := ⟨rfl, rfl, rfl, by decide +kernel, rfl, by decide +kernel, by decide +kernel⟩
abbrev s_tell_same : Stmt := top 27
abbrev N_tell_same : List Str := ["domains", "s", "saying", "turned_terms", "x", "weight"]
abbrev P_tell_same : List Str := ["domains", "s", "saying"]
theorem sc_tell_same : FnScope N_tell_same P_tell_same (defScope s_tell_same) := ⟨rfl, rfl, rfl, by decide +kernel, rfl, by decide +kernel, by decide +kernel⟩
abbrev s_tell_unlike : Stmt := top 28
abbrev N_tell_unlike : List Str := ["domains", "s", "saying", "lots", "value", "lot"]
abbrev P_tell_unlike : List Str := ["domains", "s", "saying"]
theorem sc_tell_unlike : FnScope N_tell_unlike P_tell_unlike (defScope s_tell_unlike) := ⟨rfl, rfl, rfl, by decide +kernel, rfl, by decide +kernel, by decide +kernel⟩
abbrev s_tell_counts : Stmt := top 29
abbrev N_tell_counts : List Str := ["domains", "s", "saying", "rows", "value", "low", "high", "signs"]
abbrev P_tell_counts : List Str := ["domains", "s", "saying"]
theorem sc_tell_counts : FnScope N_tell_counts P_tell_counts (defScope s_tell_counts) := ⟨rfl, rfl, rfl, by decide +kernel, rfl, by decide +kernel, by decide +kernel⟩
abbrev s_tell_works : Stmt := top 37
abbrev N_tell_works : List Str := ["domains", "s", "saying", "rows", "t", "pairs", "least", "x", "length", "need", "start", "times", "number", "more"]
abbrev P_tell_works : List Str := ["domains", "s", "saying"]
theorem sc_tell_works : FnScope N_tell_works P_tell_works (defScope s_tell_works) := ⟨rfl, rfl, rfl, by decide +kernel, rfl, by decide +kernel, by decide +kernel⟩
abbrev s_telling_rows_of : Stmt := top 43
abbrev N_telling_rows_of : List Str := ["domains", "s", "saying"]
abbrev P_telling_rows_of : List Str := ["domains", "s", "saying"]
theorem sc_telling_rows_of : FnScope N_telling_rows_of P_telling_rows_of (defScope s_telling_rows_of) := ⟨rfl, rfl, rfl, by decide +kernel, rfl, by decide +kernel, by decide +kernel⟩
abbrev s_telling_rows : Stmt := top 45
abbrev N_telling_rows : List Str := ["model", "s", "rows", "row"]
abbrev P_telling_rows : List Str := ["model", "s"]
theorem sc_telling_rows : FnScope N_telling_rows P_telling_rows (defScope s_telling_rows) := ⟨rfl, rfl, rfl, by decide +kernel, rfl, by decide +kernel, by decide +kernel⟩
abbrev s__law_pool : Stmt := top 47
abbrev N__law_pool : List Str := ["script"]
abbrev P__law_pool : List Str := ["script"]
theorem sc__law_pool : FnScope N__law_pool P__law_pool (defScope s__law_pool) := ⟨rfl, rfl, rfl, by decide +kernel, rfl, by decide +kernel, by decide +kernel⟩
abbrev s__law_draw : Stmt := top 48
abbrev N__law_draw : List Str := ["pool", "many", "cell", "digit", "mixed"]
abbrev P__law_draw : List Str := ["pool", "many"]
theorem sc__law_draw : FnScope N__law_draw P__law_draw (defScope s__law_draw) := ⟨rfl, rfl, rfl, by decide +kernel, rfl, by decide +kernel, by decide +kernel⟩
abbrev s__law_so : Stmt := top 49
abbrev N__law_so : List Str := ["found", "meant", "k"]
abbrev P__law_so : List Str := ["found", "meant"]
theorem sc__law_so : FnScope N__law_so P__law_so (defScope s__law_so) := ⟨rfl, rfl, rfl, by decide +kernel, rfl, by decide +kernel, by decide +kernel⟩
abbrev s__law_names : Stmt := top 50
abbrev N__law_names : List Str := ["pool", "names", "at"]
abbrev P__law_names : List Str := ["pool"]
theorem sc__law_names : FnScope N__law_names P__law_names (defScope s__law_names) := ⟨rfl, rfl, rfl, by decide +kernel, rfl, by decide +kernel, by decide +kernel⟩
abbrev s__law_domain : Stmt := top 51
abbrev N__law_domain : List Str := ["pool", "most", "size", "wide", "value", "out", "k"]
abbrev P__law_domain : List Str := ["pool", "most"]
theorem sc__law_domain : FnScope N__law_domain P__law_domain (defScope s__law_domain) := ⟨rfl, rfl, rfl, by decide +kernel, rfl, by decide +kernel, by decide +kernel⟩
abbrev s__law_unknowns : Stmt := top 52
abbrev N__law_unknowns : List Str := ["pool", "names", "many", "most", "k"]
abbrev P__law_unknowns : List Str := ["pool", "names", "many", "most"]
theorem sc__law_unknowns : FnScope N__law_unknowns P__law_unknowns (defScope s__law_unknowns) := ⟨rfl, rfl, rfl, by decide +kernel, rfl, by decide +kernel, by decide +kernel⟩
abbrev s__law_taken : Stmt := top 53
abbrev N__law_taken : List Str := ["pool", "names", "many", "left", "out", "k"]
abbrev P__law_taken : List Str := ["pool", "names", "many"]
theorem sc__law_taken : FnScope N__law_taken P__law_taken (defScope s__law_taken) := ⟨rfl, rfl, rfl, by decide +kernel, rfl, by decide +kernel, by decide +kernel⟩
abbrev s__law_value : Stmt := top 54
abbrev N__law_value : List Str := ["pool", "domain"]
abbrev P__law_value : List Str := ["pool", "domain"]
theorem sc__law_value : FnScope N__law_value P__law_value (defScope s__law_value) := ⟨rfl, rfl, rfl, by decide +kernel, rfl, by decide +kernel, by decide +kernel⟩
abbrev s__law_model : Stmt := top 55
abbrev N__law_model : List Str := ["pool", "unknowns", "s", "saying", "price", "noise", "others", "k", "x", "other", "at"]
abbrev P__law_model : List Str := ["pool", "unknowns", "s", "saying", "price", "noise"]
theorem sc__law_model : FnScope N__law_model P__law_model (defScope s__law_model) := ⟨rfl, rfl, rfl, by decide +kernel, rfl, by decide +kernel, by decide +kernel⟩
abbrev s__law_norm : Stmt := top 56
abbrev N__law_norm : List Str := ["pairs", "least", "sums", "side", "c", "parts", "sign"]
abbrev P__law_norm : List Str := ["pairs", "least"]
theorem sc__law_norm : FnScope N__law_norm P__law_norm (defScope s__law_norm) := ⟨rfl, rfl, rfl, by decide +kernel, rfl, by decide +kernel, by decide +kernel⟩
abbrev s__law_at_most : Stmt := top 57
abbrev N__law_at_most : List Str := ["signs", "most", "sign"]
abbrev P__law_at_most : List Str := ["signs", "most"]
theorem sc__law_at_most : FnScope N__law_at_most P__law_at_most (defScope s__law_at_most) := ⟨rfl, rfl, rfl, by decide +kernel, rfl, by decide +kernel, by decide +kernel⟩
abbrev s__law_at_least : Stmt := top 58
abbrev N__law_at_least : List Str := ["signs", "least", "sign"]
abbrev P__law_at_least : List Str := ["signs", "least"]
theorem sc__law_at_least : FnScope N__law_at_least P__law_at_least (defScope s__law_at_least) := ⟨rfl, rfl, rfl, by decide +kernel, rfl, by decide +kernel, by decide +kernel⟩
abbrev s__law_from : Stmt := top 59
abbrev N__law_from : List Str := ["doms", "x", "v", "values", "u"]
abbrev P__law_from : List Str := ["doms", "x", "v"]
theorem sc__law_from : FnScope N__law_from P__law_from (defScope s__law_from) := ⟨rfl, rfl, rfl, by decide +kernel, rfl, by decide +kernel, by decide +kernel⟩
abbrev s__law_sum_row : Stmt := top 60
abbrev N__law_sum_row : List Str := ["doms", "terms", "n", "pairs", "x", "w", "k"]
abbrev P__law_sum_row : List Str := ["doms", "terms", "n"]
theorem sc__law_sum_row : FnScope N__law_sum_row P__law_sum_row (defScope s__law_sum_row) := ⟨rfl, rfl, rfl, by decide +kernel, rfl, by decide +kernel, by decide +kernel⟩
abbrev s__law_unlike_rows : Stmt := top 61
abbrev N__law_unlike_rows : List Str := ["doms", "xs", "met", "x", "v", "out"]
abbrev P__law_unlike_rows : List Str := ["doms", "xs"]
theorem sc__law_unlike_rows : FnScope N__law_unlike_rows P__law_unlike_rows (defScope s__law_unlike_rows) := ⟨rfl, rfl, rfl, by decide +kernel, rfl, by decide +kernel, by decide +kernel⟩
abbrev s__law_counts_rows : Stmt := top 62
abbrev N__law_counts_rows : List Str := ["doms", "xs", "triples", "out", "v", "low", "high", "signs", "x"]
abbrev P__law_counts_rows : List Str := ["doms", "xs", "triples"]
theorem sc__law_counts_rows : FnScope N__law_counts_rows P__law_counts_rows (defScope s__law_counts_rows) := ⟨rfl, rfl, rfl, by decide +kernel, rfl, by decide +kernel, by decide +kernel⟩
abbrev s__law_works_rows : Stmt := top 63
abbrev N__law_works_rows : List Str := ["doms", "saying", "kind", "xs", "lengths", "needs", "room", "times", "x", "t", "out", "pairs", "least", "k", "begun", "over", "sign", "c"]
abbrev P__law_works_rows : List Str := ["doms", "saying"]
theorem sc__law_works_rows : FnScope N__law_works_rows P__law_works_rows (defScope s__law_works_rows) := ⟨rfl, rfl, rfl, by decide +kernel, rfl, by decide +kernel, by decide +kernel⟩
abbrev s__law_further : Stmt := top 64
abbrev N__law_further : List Str := ["rows", "sign", "out", "parts", "least", "more"]
abbrev P__law_further : List Str := ["rows", "sign"]
theorem sc__law_further : FnScope N__law_further P__law_further (defScope s__law_further) := ⟨rfl, rfl, rfl, by decide +kernel, rfl, by decide +kernel, by decide +kernel⟩
abbrev s__law_sums : Stmt := top 65
abbrev N__law_sums : List Str := ["pool", "doms", "names", "great", "kind", "xs", "terms", "n", "triples", "k", "v", "low", "lengths", "needs", "x"]
abbrev P__law_sums : List Str := ["pool", "doms", "names", "great"]
theorem sc__law_sums : FnScope N__law_sums P__law_sums (defScope s__law_sums) := ⟨rfl, rfl, rfl, by decide +kernel, rfl, by decide +kernel, by decide +kernel⟩
abbrev s__law_due : Stmt := top 66
abbrev N__law_due : List Str := ["unknowns", "s", "saying", "price", "doms", "rows", "x", "w"]
abbrev P__law_due : List Str := ["unknowns", "s", "saying", "price"]
theorem sc__law_due : FnScope N__law_due P__law_due (defScope s__law_due) := ⟨rfl, rfl, rfl, by decide +kernel, rfl, by decide +kernel, by decide +kernel⟩
abbrev s_law : Stmt := top 67
abbrev N_law : List Str := ["script", "pool", "names", "models", "rows", "great", "turn", "many", "unknowns", "saying", "price", "k", "told"]
abbrev P_law : List Str := ["script"]
theorem sc_law : FnScope N_law P_law (defScope s_law) := ⟨rfl, rfl, rfl, by decide +kernel, rfl, by decide +kernel, by decide +kernel⟩
structure Ad where
  a_domains_of : Addr
  c_domains_of : Addr
  a_said_in : Addr
  c_said_in : Addr
  a_prices_of : Addr
  c_prices_of : Addr
  a_norm : Addr
  c_norm : Addr
  a_upward : Addr
  c_upward : Addr
  a_at_most : Addr
  c_at_most : Addr
  a_at_least : Addr
  c_at_least : Addr
  a_value_pairs : Addr
  c_value_pairs : Addr
  a_upward_pairs : Addr
  c_upward_pairs : Addr
  a_sum_row : Addr
  c_sum_row : Addr
  a_with_part : Addr
  c_with_part : Addr
  a_values_of : Addr
  c_values_of : Addr
  a_having : Addr
  c_having : Addr
  a_tell_least : Addr
  c_tell_least : Addr
  a_tell_same : Addr
  c_tell_same : Addr
  a_tell_unlike : Addr
  c_tell_unlike : Addr
  a_tell_counts : Addr
  c_tell_counts : Addr
  a_tell_works : Addr
  c_tell_works : Addr
  a_telling_rows_of : Addr
  c_telling_rows_of : Addr
  a_telling_rows : Addr
  c_telling_rows : Addr
  a__law_pool : Addr
  c__law_pool : Addr
  a__law_draw : Addr
  c__law_draw : Addr
  a__law_so : Addr
  c__law_so : Addr
  a__law_names : Addr
  c__law_names : Addr
  a__law_domain : Addr
  c__law_domain : Addr
  a__law_unknowns : Addr
  c__law_unknowns : Addr
  a__law_taken : Addr
  c__law_taken : Addr
  a__law_value : Addr
  c__law_value : Addr
  a__law_model : Addr
  c__law_model : Addr
  a__law_norm : Addr
  c__law_norm : Addr
  a__law_at_most : Addr
  c__law_at_most : Addr
  a__law_at_least : Addr
  c__law_at_least : Addr
  a__law_from : Addr
  c__law_from : Addr
  a__law_sum_row : Addr
  c__law_sum_row : Addr
  a__law_unlike_rows : Addr
  c__law_unlike_rows : Addr
  a__law_counts_rows : Addr
  c__law_counts_rows : Addr
  a__law_works_rows : Addr
  c__law_works_rows : Addr
  a__law_further : Addr
  c__law_further : Addr
  a__law_sums : Addr
  c__law_sums : Addr
  a__law_due : Addr
  c__law_due : Addr
  a_law : Addr
  c_law : Addr
  d_TELLING_ROWS : Addr
def Ad.tabs (a : Ad) : List Addr := []
def ga_telling_rows_s_model : List D → List D := fun ws => match ws with | [w0, w1] => [w1, w0] | _ => ([] : List D)
def gg_telling_rows_s_model : List Value → List Value → List Value := fun us ws => match us, ws with | [], [w0, w1] => [w1, w0] | _, _ => ([] : List Value)
def gV_telling_rows_s_model : List V → List V → List V := fun us ws => match us, ws with | [], [w0, w1] => [w1, w0] | _, _ => ([] : List V)
theorem gaR_telling_rows_s_model : ∀ (R : V → D → Prop) (vs : List V) (ds : List D), Paired R vs ds → Paired R (gV_telling_rows_s_model [] vs) (ga_telling_rows_s_model ds) := fun R vs ds r => by
  unfold gV_telling_rows_s_model ga_telling_rows_s_model
  cases r with
  | nil => exact .nil
  | cons a0 r =>
    cases r with
    | nil => exact .nil
    | cons a1 r =>
      cases r with
      | nil => exact (.cons a1 (.cons a0 .nil))
      | cons _ _ => exact .nil
theorem gaL_telling_rows_s_model : ∀ ds : List D, ds.length = 2 → (ga_telling_rows_s_model ds).length = P_telling_rows.length := fun ds h => by
  match ds, h with
  | [_, _], _ => rfl
structure Fd where
  d_domains_of : FuncData
  d_said_in : FuncData
  d_prices_of : FuncData
  d_norm : FuncData
  d_upward : FuncData
  d_at_most : FuncData
  d_at_least : FuncData
  d_value_pairs : FuncData
  d_upward_pairs : FuncData
  d_sum_row : FuncData
  d_with_part : FuncData
  d_values_of : FuncData
  d_having : FuncData
  d_tell_least : FuncData
  d_tell_same : FuncData
  d_tell_unlike : FuncData
  d_tell_counts : FuncData
  d_tell_works : FuncData
  d_telling_rows_of : FuncData
  d_telling_rows : FuncData
  d__law_pool : FuncData
  d__law_draw : FuncData
  d__law_so : FuncData
  d__law_names : FuncData
  d__law_domain : FuncData
  d__law_unknowns : FuncData
  d__law_taken : FuncData
  d__law_value : FuncData
  d__law_model : FuncData
  d__law_norm : FuncData
  d__law_at_most : FuncData
  d__law_at_least : FuncData
  d__law_from : FuncData
  d__law_sum_row : FuncData
  d__law_unlike_rows : FuncData
  d__law_counts_rows : FuncData
  d__law_works_rows : FuncData
  d__law_further : FuncData
  d__law_sums : FuncData
  d__law_due : FuncData
  d_law : FuncData
structure Txt (w : World) (K : PySem.W.Frag) (mg : Str → Option Value) (base : Heap) (a : Ad) (d : Fd) : Prop where
  F_domains_of : FunC K "domains_of" "domains_of" s_domains_of a.a_domains_of d.d_domains_of a.c_domains_of
  k_domains_of : PySem.W.keepIn K (.ref a.a_domains_of) = true
  b_domains_of : Binds K d.d_domains_of P_domains_of []
  m_domains_of : mg "domains_of" = some (.ref a.a_domains_of)
  F_said_in : FunC K "said_in" "said_in" s_said_in a.a_said_in d.d_said_in a.c_said_in
  k_said_in : PySem.W.keepIn K (.ref a.a_said_in) = true
  b_said_in : Binds K d.d_said_in P_said_in []
  m_said_in : mg "said_in" = some (.ref a.a_said_in)
  F_prices_of : FunC K "prices_of" "prices_of" s_prices_of a.a_prices_of d.d_prices_of a.c_prices_of
  k_prices_of : PySem.W.keepIn K (.ref a.a_prices_of) = true
  b_prices_of : Binds K d.d_prices_of P_prices_of []
  m_prices_of : mg "prices_of" = some (.ref a.a_prices_of)
  F_norm : FunC K "norm" "norm" s_norm a.a_norm d.d_norm a.c_norm
  k_norm : PySem.W.keepIn K (.ref a.a_norm) = true
  b_norm : Binds K d.d_norm P_norm []
  m_norm : mg "norm" = some (.ref a.a_norm)
  F_upward : FunC K "upward" "upward" s_upward a.a_upward d.d_upward a.c_upward
  k_upward : PySem.W.keepIn K (.ref a.a_upward) = true
  b_upward : Binds K d.d_upward P_upward []
  m_upward : mg "upward" = some (.ref a.a_upward)
  F_at_most : FunC K "at_most" "at_most" s_at_most a.a_at_most d.d_at_most a.c_at_most
  k_at_most : PySem.W.keepIn K (.ref a.a_at_most) = true
  b_at_most : Binds K d.d_at_most P_at_most []
  m_at_most : mg "at_most" = some (.ref a.a_at_most)
  F_at_least : FunC K "at_least" "at_least" s_at_least a.a_at_least d.d_at_least a.c_at_least
  k_at_least : PySem.W.keepIn K (.ref a.a_at_least) = true
  b_at_least : Binds K d.d_at_least P_at_least []
  m_at_least : mg "at_least" = some (.ref a.a_at_least)
  F_value_pairs : FunC K "value_pairs" "value_pairs" s_value_pairs a.a_value_pairs d.d_value_pairs a.c_value_pairs
  k_value_pairs : PySem.W.keepIn K (.ref a.a_value_pairs) = true
  b_value_pairs : Binds K d.d_value_pairs P_value_pairs []
  m_value_pairs : mg "value_pairs" = some (.ref a.a_value_pairs)
  F_upward_pairs : FunC K "upward_pairs" "upward_pairs" s_upward_pairs a.a_upward_pairs d.d_upward_pairs a.c_upward_pairs
  k_upward_pairs : PySem.W.keepIn K (.ref a.a_upward_pairs) = true
  b_upward_pairs : Binds K d.d_upward_pairs P_upward_pairs []
  m_upward_pairs : mg "upward_pairs" = some (.ref a.a_upward_pairs)
  F_sum_row : FunC K "sum_row" "sum_row" s_sum_row a.a_sum_row d.d_sum_row a.c_sum_row
  k_sum_row : PySem.W.keepIn K (.ref a.a_sum_row) = true
  b_sum_row : Binds K d.d_sum_row P_sum_row []
  m_sum_row : mg "sum_row" = some (.ref a.a_sum_row)
  F_with_part : FunC K "with_part" "with_part" s_with_part a.a_with_part d.d_with_part a.c_with_part
  k_with_part : PySem.W.keepIn K (.ref a.a_with_part) = true
  b_with_part : Binds K d.d_with_part P_with_part []
  m_with_part : mg "with_part" = some (.ref a.a_with_part)
  F_values_of : FunC K "values_of" "values_of" s_values_of a.a_values_of d.d_values_of a.c_values_of
  k_values_of : PySem.W.keepIn K (.ref a.a_values_of) = true
  b_values_of : Binds K d.d_values_of P_values_of []
  m_values_of : mg "values_of" = some (.ref a.a_values_of)
  F_having : FunC K "having" "having" s_having a.a_having d.d_having a.c_having
  k_having : PySem.W.keepIn K (.ref a.a_having) = true
  b_having : Binds K d.d_having P_having []
  m_having : mg "having" = some (.ref a.a_having)
  F_tell_least : FunC K "tell_least" "tell_least" s_tell_least a.a_tell_least d.d_tell_least a.c_tell_least
  k_tell_least : PySem.W.keepIn K (.ref a.a_tell_least) = true
  b_tell_least : Binds K d.d_tell_least P_tell_least []
  m_tell_least : mg "tell_least" = some (.ref a.a_tell_least)
  F_tell_same : FunC K "tell_same" "tell_same" s_tell_same a.a_tell_same d.d_tell_same a.c_tell_same
  k_tell_same : PySem.W.keepIn K (.ref a.a_tell_same) = true
  b_tell_same : Binds K d.d_tell_same P_tell_same []
  m_tell_same : mg "tell_same" = some (.ref a.a_tell_same)
  F_tell_unlike : FunC K "tell_unlike" "tell_unlike" s_tell_unlike a.a_tell_unlike d.d_tell_unlike a.c_tell_unlike
  k_tell_unlike : PySem.W.keepIn K (.ref a.a_tell_unlike) = true
  b_tell_unlike : Binds K d.d_tell_unlike P_tell_unlike []
  m_tell_unlike : mg "tell_unlike" = some (.ref a.a_tell_unlike)
  F_tell_counts : FunC K "tell_counts" "tell_counts" s_tell_counts a.a_tell_counts d.d_tell_counts a.c_tell_counts
  k_tell_counts : PySem.W.keepIn K (.ref a.a_tell_counts) = true
  b_tell_counts : Binds K d.d_tell_counts P_tell_counts []
  m_tell_counts : mg "tell_counts" = some (.ref a.a_tell_counts)
  F_tell_works : FunC K "tell_works" "tell_works" s_tell_works a.a_tell_works d.d_tell_works a.c_tell_works
  k_tell_works : PySem.W.keepIn K (.ref a.a_tell_works) = true
  b_tell_works : Binds K d.d_tell_works P_tell_works []
  m_tell_works : mg "tell_works" = some (.ref a.a_tell_works)
  F_telling_rows_of : FunC K "telling_rows_of" "telling_rows_of" s_telling_rows_of a.a_telling_rows_of d.d_telling_rows_of a.c_telling_rows_of
  k_telling_rows_of : PySem.W.keepIn K (.ref a.a_telling_rows_of) = true
  b_telling_rows_of : Binds K d.d_telling_rows_of P_telling_rows_of []
  m_telling_rows_of : mg "telling_rows_of" = some (.ref a.a_telling_rows_of)
  F_telling_rows : FunC K "telling_rows" "telling_rows" s_telling_rows a.a_telling_rows d.d_telling_rows a.c_telling_rows
  k_telling_rows : PySem.W.keepIn K (.ref a.a_telling_rows) = true
  b_telling_rows : Binds K d.d_telling_rows P_telling_rows []
  m_telling_rows : mg "telling_rows" = some (.ref a.a_telling_rows)
  F__law_pool : FunC K "_law_pool" "_law_pool" s__law_pool a.a__law_pool d.d__law_pool a.c__law_pool
  k__law_pool : PySem.W.keepIn K (.ref a.a__law_pool) = true
  b__law_pool : Binds K d.d__law_pool P__law_pool []
  m__law_pool : mg "_law_pool" = some (.ref a.a__law_pool)
  F__law_draw : FunC K "_law_draw" "_law_draw" s__law_draw a.a__law_draw d.d__law_draw a.c__law_draw
  k__law_draw : PySem.W.keepIn K (.ref a.a__law_draw) = true
  b__law_draw : Binds K d.d__law_draw P__law_draw []
  m__law_draw : mg "_law_draw" = some (.ref a.a__law_draw)
  F__law_so : FunC K "_law_so" "_law_so" s__law_so a.a__law_so d.d__law_so a.c__law_so
  k__law_so : PySem.W.keepIn K (.ref a.a__law_so) = true
  b__law_so : Binds K d.d__law_so P__law_so []
  m__law_so : mg "_law_so" = some (.ref a.a__law_so)
  F__law_names : FunC K "_law_names" "_law_names" s__law_names a.a__law_names d.d__law_names a.c__law_names
  k__law_names : PySem.W.keepIn K (.ref a.a__law_names) = true
  b__law_names : Binds K d.d__law_names P__law_names []
  m__law_names : mg "_law_names" = some (.ref a.a__law_names)
  F__law_domain : FunC K "_law_domain" "_law_domain" s__law_domain a.a__law_domain d.d__law_domain a.c__law_domain
  k__law_domain : PySem.W.keepIn K (.ref a.a__law_domain) = true
  b__law_domain : Binds K d.d__law_domain P__law_domain []
  m__law_domain : mg "_law_domain" = some (.ref a.a__law_domain)
  F__law_unknowns : FunC K "_law_unknowns" "_law_unknowns" s__law_unknowns a.a__law_unknowns d.d__law_unknowns a.c__law_unknowns
  k__law_unknowns : PySem.W.keepIn K (.ref a.a__law_unknowns) = true
  b__law_unknowns : Binds K d.d__law_unknowns P__law_unknowns []
  m__law_unknowns : mg "_law_unknowns" = some (.ref a.a__law_unknowns)
  F__law_taken : FunC K "_law_taken" "_law_taken" s__law_taken a.a__law_taken d.d__law_taken a.c__law_taken
  k__law_taken : PySem.W.keepIn K (.ref a.a__law_taken) = true
  b__law_taken : Binds K d.d__law_taken P__law_taken []
  m__law_taken : mg "_law_taken" = some (.ref a.a__law_taken)
  F__law_value : FunC K "_law_value" "_law_value" s__law_value a.a__law_value d.d__law_value a.c__law_value
  k__law_value : PySem.W.keepIn K (.ref a.a__law_value) = true
  b__law_value : Binds K d.d__law_value P__law_value []
  m__law_value : mg "_law_value" = some (.ref a.a__law_value)
  F__law_model : FunC K "_law_model" "_law_model" s__law_model a.a__law_model d.d__law_model a.c__law_model
  k__law_model : PySem.W.keepIn K (.ref a.a__law_model) = true
  b__law_model : Binds K d.d__law_model P__law_model []
  m__law_model : mg "_law_model" = some (.ref a.a__law_model)
  F__law_norm : FunC K "_law_norm" "_law_norm" s__law_norm a.a__law_norm d.d__law_norm a.c__law_norm
  k__law_norm : PySem.W.keepIn K (.ref a.a__law_norm) = true
  b__law_norm : Binds K d.d__law_norm P__law_norm []
  m__law_norm : mg "_law_norm" = some (.ref a.a__law_norm)
  F__law_at_most : FunC K "_law_at_most" "_law_at_most" s__law_at_most a.a__law_at_most d.d__law_at_most a.c__law_at_most
  k__law_at_most : PySem.W.keepIn K (.ref a.a__law_at_most) = true
  b__law_at_most : Binds K d.d__law_at_most P__law_at_most []
  m__law_at_most : mg "_law_at_most" = some (.ref a.a__law_at_most)
  F__law_at_least : FunC K "_law_at_least" "_law_at_least" s__law_at_least a.a__law_at_least d.d__law_at_least a.c__law_at_least
  k__law_at_least : PySem.W.keepIn K (.ref a.a__law_at_least) = true
  b__law_at_least : Binds K d.d__law_at_least P__law_at_least []
  m__law_at_least : mg "_law_at_least" = some (.ref a.a__law_at_least)
  F__law_from : FunC K "_law_from" "_law_from" s__law_from a.a__law_from d.d__law_from a.c__law_from
  k__law_from : PySem.W.keepIn K (.ref a.a__law_from) = true
  b__law_from : Binds K d.d__law_from P__law_from []
  m__law_from : mg "_law_from" = some (.ref a.a__law_from)
  F__law_sum_row : FunC K "_law_sum_row" "_law_sum_row" s__law_sum_row a.a__law_sum_row d.d__law_sum_row a.c__law_sum_row
  k__law_sum_row : PySem.W.keepIn K (.ref a.a__law_sum_row) = true
  b__law_sum_row : Binds K d.d__law_sum_row P__law_sum_row []
  m__law_sum_row : mg "_law_sum_row" = some (.ref a.a__law_sum_row)
  F__law_unlike_rows : FunC K "_law_unlike_rows" "_law_unlike_rows" s__law_unlike_rows a.a__law_unlike_rows d.d__law_unlike_rows a.c__law_unlike_rows
  k__law_unlike_rows : PySem.W.keepIn K (.ref a.a__law_unlike_rows) = true
  b__law_unlike_rows : Binds K d.d__law_unlike_rows P__law_unlike_rows []
  m__law_unlike_rows : mg "_law_unlike_rows" = some (.ref a.a__law_unlike_rows)
  F__law_counts_rows : FunC K "_law_counts_rows" "_law_counts_rows" s__law_counts_rows a.a__law_counts_rows d.d__law_counts_rows a.c__law_counts_rows
  k__law_counts_rows : PySem.W.keepIn K (.ref a.a__law_counts_rows) = true
  b__law_counts_rows : Binds K d.d__law_counts_rows P__law_counts_rows []
  m__law_counts_rows : mg "_law_counts_rows" = some (.ref a.a__law_counts_rows)
  F__law_works_rows : FunC K "_law_works_rows" "_law_works_rows" s__law_works_rows a.a__law_works_rows d.d__law_works_rows a.c__law_works_rows
  k__law_works_rows : PySem.W.keepIn K (.ref a.a__law_works_rows) = true
  b__law_works_rows : Binds K d.d__law_works_rows P__law_works_rows []
  m__law_works_rows : mg "_law_works_rows" = some (.ref a.a__law_works_rows)
  F__law_further : FunC K "_law_further" "_law_further" s__law_further a.a__law_further d.d__law_further a.c__law_further
  k__law_further : PySem.W.keepIn K (.ref a.a__law_further) = true
  b__law_further : Binds K d.d__law_further P__law_further []
  m__law_further : mg "_law_further" = some (.ref a.a__law_further)
  F__law_sums : FunC K "_law_sums" "_law_sums" s__law_sums a.a__law_sums d.d__law_sums a.c__law_sums
  k__law_sums : PySem.W.keepIn K (.ref a.a__law_sums) = true
  b__law_sums : Binds K d.d__law_sums P__law_sums []
  m__law_sums : mg "_law_sums" = some (.ref a.a__law_sums)
  F__law_due : FunC K "_law_due" "_law_due" s__law_due a.a__law_due d.d__law_due a.c__law_due
  k__law_due : PySem.W.keepIn K (.ref a.a__law_due) = true
  b__law_due : Binds K d.d__law_due P__law_due []
  m__law_due : mg "_law_due" = some (.ref a.a__law_due)
  F_law : FunC K "law" "law" s_law a.a_law d.d_law a.c_law
  k_law : PySem.W.keepIn K (.ref a.a_law) = true
  b_law : Binds K d.d_law P_law []
  m_law : mg "law" = some (.ref a.a_law)
  z_abs : mg "abs" = none
  z_bool : mg "bool" = none
  z_dict : mg "dict" = none
  z_enumerate : mg "enumerate" = none
  z_int : mg "int" = none
  z_isinstance : mg "isinstance" = none
  z_len : mg "len" = none
  z_list : mg "list" = none
  z_max : mg "max" = none
  z_min : mg "min" = none
  z_range : mg "range" = none
  z_set : mg "set" = none
  z_sorted : mg "sorted" = none
  z_str : mg "str" = none
  z_tuple : mg "tuple" = none
  z_zip : mg "zip" = none
  h_TELLING_ROWS : mg "TELLING_ROWS" = some (.ref a.d_TELLING_ROWS)
  kd_TELLING_ROWS_least : KDct K w a.d_TELLING_ROWS "least" (.ref a.a_tell_least)
  kd_TELLING_ROWS_same : KDct K w a.d_TELLING_ROWS "same" (.ref a.a_tell_same)
  kd_TELLING_ROWS_unlike : KDct K w a.d_TELLING_ROWS "unlike" (.ref a.a_tell_unlike)
  kd_TELLING_ROWS_counts : KDct K w a.d_TELLING_ROWS "counts" (.ref a.a_tell_counts)
  kd_TELLING_ROWS_works : KDct K w a.d_TELLING_ROWS "works" (.ref a.a_tell_works)
  kb_telling_rows_s_model : KBinds K d.d_telling_rows P_telling_rows ["s", "model"] gg_telling_rows_s_model gV_telling_rows_s_model
def m_domains_of : MS :=
  (mSeq (mRet (mDc (mItems2 (mBin gIx (mFrz 0) (mC (.int 0)))) (gTupT 2 (gsCons (gSet 1) (gsCons (gSet 2) gsNil))) mYes (mFrz 1) (mFrz 2) [1, 2]))
  mNext)
def f_domains_of : List D → Option (D × List D) := runD N_domains_of.length [] m_domains_of
theorem ok_domains_of {P : Program} {w : World} {K : PySem.W.Frag} {mg : Str → Option Value} {base : Heap} {a : Ad} {d : Fd} (T : Txt w K mg base a d) : FnOk P w K mg base CX0 1 a.a_domains_of d.d_domains_of P_domains_of (spD ⟨K, w⟩ a.tabs [] P_domains_of.length f_domains_of) := by
  refine okD (k := 0) T.F_domains_of sc_domains_of fun A outer s H E S A0 hr => ?_
  exact (ss_cons (sret (x_new (x_dc (own := [("name", 1), ("domain", 2)]) rfl sc_domains_of.nd (w_seq2 (x_ix (o_ix (hu_of hr)) (xf 0) x_int (fun _ _ => rfl))) (blkOk_by (own := [("name", 1), ("domain", 2)]) (N := N_domains_of) (sc := defScope s_domains_of) (by decide +kernel)) (fun _ _ _ _ _ _ => (g_tupW rfl (gs_consW (gnW 1 sc_domains_of.nd) (gs_consW (gnW 2 sc_domains_of.nd) gs_nilW)))) (fun _ _ _ _ _ _ => ts_nil) (fun _ _ _ _ _ _ => (xf 1)) (fun _ _ _ _ _ _ => (xf 2)) (hv := nios rfl))))
      ss_nil)
def m_said_in : MS :=
  (mSeq (mAsg (mDc (mItems2 (mBin gIx (mFrz 0) (mC (.int 1)))) (gTupT 2 (gsCons (gSet 2) (gsCons (gSet 3) gsNil))) mYes (mFrz 2) (mFrz 3) [2, 3]) (gOwn 1))
  (mSeq (mFor (mItems2 (mBin gIx (mFrz 0) (mC (.int 2)))) (gTupT 3 (gsCons (gSet 2) (gsCons (gSet 3) (gsCons (gSet 4) gsNil)))) (mSeq (mPut 1 (mFrz 2) (mFrz 3))
  mNext))
  (mSeq (mRet (mFrz 1))
  mNext)))
def f_said_in : List D → Option (D × List D) := runD N_said_in.length [] m_said_in
theorem ok_said_in {P : Program} {w : World} {K : PySem.W.Frag} {mg : Str → Option Value} {base : Heap} {a : Ad} {d : Fd} (T : Txt w K mg base a d) : FnOk P w K mg base CX0 1 a.a_said_in d.d_said_in P_said_in (spD ⟨K, w⟩ a.tabs [] P_said_in.length f_said_in) := by
  refine okD (k := 0) T.F_said_in sc_said_in fun A outer s H E S A0 hr => ?_
  exact (ss_cons (sown_dc 1 (own := [("name", 2), ("saying", 3)]) rfl sc_said_in.nd (w_seq2 (x_ix (o_ix (hu_of hr)) (xf 0) x_int (fun _ _ => rfl))) (blkOk_by (own := [("name", 2), ("saying", 3)]) (N := N_said_in) (sc := defScope s_said_in) (by decide +kernel)) (fun _ _ _ _ _ _ => (g_tupW rfl (gs_consW (gnW 2 sc_said_in.nd) (gs_consW (gnW 3 sc_said_in.nd) gs_nilW)))) (fun _ _ _ _ _ _ => ts_nil) (fun _ _ _ _ _ _ => (xf 2)) (fun _ _ _ _ _ _ => (xf 3)) (hv := nios rfl))
      (ss_cons (s_for PassesOwn.never rfl (w_seq2 (x_ix (o_ix (hu_of hr)) (xf 0) x_int (fun _ _ => rfl))) (fun _ => (g_tup rfl (gs_cons (gn 2 sc_said_in.nd) (gs_cons (gn 3 sc_said_in.nd) (gs_cons (gn 4 sc_said_in.nd) gs_nil gSet_keep) gSet_keep) gSet_keep))) (fun _ => (ss_cons (sput 1 (hu_of hr) (xf 2) (xf 3))
      ss_nil)))
      (ss_cons (sret (xf 1))
      ss_nil)))
def m_prices_of : MS :=
  (mSeq (mRet (mDc (mItems2 (mBin gIx (mFrz 0) (mC (.int 2)))) (gTupT 3 (gsCons (gSet 1) (gsCons (gSet 2) (gsCons (gSet 3) gsNil)))) mYes (mFrz 1) (mFrz 3) [1, 2, 3]))
  mNext)
def f_prices_of : List D → Option (D × List D) := runD N_prices_of.length [] m_prices_of
theorem ok_prices_of {P : Program} {w : World} {K : PySem.W.Frag} {mg : Str → Option Value} {base : Heap} {a : Ad} {d : Fd} (T : Txt w K mg base a d) : FnOk P w K mg base CX0 1 a.a_prices_of d.d_prices_of P_prices_of (spD ⟨K, w⟩ a.tabs [] P_prices_of.length f_prices_of) := by
  refine okD (k := 0) T.F_prices_of sc_prices_of fun A outer s H E S A0 hr => ?_
  exact (ss_cons (sret (x_new (x_dc (own := [("name", 1), ("_", 2), ("price", 3)]) rfl sc_prices_of.nd (w_seq2 (x_ix (o_ix (hu_of hr)) (xf 0) x_int (fun _ _ => rfl))) (blkOk_by (own := [("name", 1), ("_", 2), ("price", 3)]) (N := N_prices_of) (sc := defScope s_prices_of) (by decide +kernel)) (fun _ _ _ _ _ _ => (g_tupW rfl (gs_consW (gnW 1 sc_prices_of.nd) (gs_consW (gnW 2 sc_prices_of.nd) (gs_consW (gnW 3 sc_prices_of.nd) gs_nilW))))) (fun _ _ _ _ _ _ => ts_nil) (fun _ _ _ _ _ _ => (xf 1)) (fun _ _ _ _ _ _ => (xf 3)) (hv := nios rfl))))
      ss_nil)
def m_norm : MS :=
  (mSeq (mAsg (mC (.dict [])) (gOwn 2))
  (mSeq (mFor (mItems2 (mFrz 0)) (gTupT 2 (gsCons (gTupT 2 (gsCons (gSet 3) (gsCons (gSet 4) gsNil))) (gsCons (gSet 5) gsNil))) (mSeq (mPutT 2 (mFrz 3) (mBin gAdd (mGet2T (mVar 2) (mFrz 3) (mC (.int 0))) (mIf (mB (mFrz 4)) (mFrz 5) (mUn gNeg (mFrz 5)))))
  (mSeq (mAug 1 gSubI (mIf (mB (mFrz 4)) (mC (.int 0)) (mFrz 5)))
  mNext)))
  (mSeq (mAsg (mApp gLstD mNil) (gOwn 6))
  (mSeq (mFor (mItems2 (mApp gSortedTX (mCons (mVar 2) mNil))) (gSet 3) (mSeq (mAsg (mBin gIxT (mVar 2) (mFrz 3)) (gSet 5))
  (mSeq (mIfS (mB (mBin gGt (mFrz 5) (mC (.int 0)))) (mSeq (mDrop (mMut 6 gApp (mApp gTupD (mCons (mApp gTupD (mCons (mFrz 3) (mCons (mC (.bool true)) mNil))) (mCons (mFrz 5) mNil)))))
  mNext) mNext)
  (mSeq (mIfS (mB (mBin gLt (mFrz 5) (mC (.int 0)))) (mSeq (mDrop (mMut 6 gApp (mApp gTupD (mCons (mApp gTupD (mCons (mFrz 3) (mCons (mC (.bool false)) mNil))) (mCons (mUn gNeg (mFrz 5)) mNil)))))
  (mSeq (mAug 1 gSubI (mFrz 5))
  mNext)) mNext)
  mNext))))
  (mSeq (mRet (mApp gTupD (mCons (mApp gTupOf (mCons (mVar 6) mNil)) (mCons (mApp gMax2 (mCons (mFrz 1) (mCons (mC (.int 0)) mNil))) mNil))))
  mNext)))))
def f_norm : List D → Option (D × List D) := runD N_norm.length [] m_norm
theorem ok_norm {P : Program} {w : World} {K : PySem.W.Frag} {mg : Str → Option Value} {base : Heap} {a : Ad} {d : Fd} (T : Txt w K mg base a d) : FnOk P w K mg base CX0 1 a.a_norm d.d_norm P_norm (spD ⟨K, w⟩ a.tabs [] P_norm.length f_norm) := by
  refine okD (k := 0) T.F_norm sc_norm fun A outer s H E S A0 hr => ?_
  exact (ss_cons (sown 2 sc_norm.nd x_dicN)
      (ss_cons (s_for PassesOwn.never rfl (w_seq2 (xf 0)) (fun _ => (g_tup rfl (gs_cons (g_tup rfl (gs_cons (gn 3 sc_norm.nd) (gs_cons (gn 4 sc_norm.nd) gs_nil gSet_keep) gSet_keep)) (gs_cons (gn 5 sc_norm.nd) gs_nil gSet_keep) (gTupT_keep (gsCons_keep gSet_keep (gsCons_keep gSet_keep gsNil_keep)))))) (fun _ => (ss_cons (sputT 2 (hu_of hr) (xf 3) (x_bin o_add (x_get2T (hu_of hr) (xv 2) (xf 3) x_int) (x_if (t_val (xf 4)) (xf 5) (x_neg (xf 5)))))
      (ss_cons (saug 1 sc_norm.nd (x_if (t_val (xf 4)) x_int (xf 5)) i_sub)
      ss_nil))))
      (ss_cons (sown 6 sc_norm.nd (x_lstN (pe_lst xa_nil)))
      (ss_cons (s_for PassesOwn.never rfl (w_seq2 (x_callB (c_sortedTX rfl (hu65 hr)) (by rfl) T.z_sorted (by decide +kernel) (xa_cons (xv 2) xa_nil))) (fun _ => (gn 3 sc_norm.nd)) (fun _ => (ss_cons (s_asg (x_ix (o_ixT (hu_of hr)) (xv 2) (xf 3) (fun _ _ => rfl)) (gn 5 sc_norm.nd))
      (ss_cons (s_if (t_cmp o_gt (xf 5) x_int) (ss_cons (s_expr (x_append (i := 6) rfl (by first | exact Or.inl rfl | exact Or.inr (Or.inl rfl) | exact Or.inr (Or.inr rfl)) (x_tup (FrzT.pe_tupF (xa_cons (x_tup (FrzT.pe_tupF (xa_cons (xf 3) (xa_cons x_bl xa_nil)))) (xa_cons (xf 5) xa_nil))))))
      ss_nil) ss_nil)
      (ss_cons (s_if (t_cmp o_lt (xf 5) x_int) (ss_cons (s_expr (x_append (i := 6) rfl (by first | exact Or.inl rfl | exact Or.inr (Or.inl rfl) | exact Or.inr (Or.inr rfl)) (x_tup (FrzT.pe_tupF (xa_cons (x_tup (FrzT.pe_tupF (xa_cons (xf 3) (xa_cons x_bl xa_nil)))) (xa_cons (x_neg (xf 5)) xa_nil))))))
      (ss_cons (saug 1 sc_norm.nd (xf 5) i_sub)
      ss_nil)) ss_nil)
      ss_nil)))))
      (ss_cons (sret (x_tup (FrzT.pe_tupF (xa_cons (x_callTy c_tuple (by rfl) T.z_tuple (by decide +kernel) (xa_cons (xv 6) xa_nil)) (xa_cons (x_callB (c_max2 rfl) (by rfl) T.z_max (by decide +kernel) (xa_cons (xf 1) (xa_cons x_int xa_nil))) xa_nil)))))
      ss_nil)))))
def m_upward : MS :=
  (mSeq (mFor (mRange gEnum (mCons (mBin gIx (mFrz 0) (mFrz 1)) mNil)) (gTupT 2 (gsCons (gSet 3) (gsCons (gSet 4) gsNil))) (mSeq (mIfS (mB (mBin gGe (mFrz 4) (mFrz 2))) (mSeq (mRet (mIf (mB (mBin gEq (mFrz 3) (mC (.int 0)))) (mC (.bool true)) (mApp gTupD (mCons (mC (.str "from")) (mCons (mFrz 1) (mCons (mFrz 4) mNil))))))
  mNext) mNext)
  mNext))
  (mSeq (mRet (mC (.bool false)))
  mNext))
def f_upward : List D → Option (D × List D) := runD N_upward.length [] m_upward
theorem ok_upward {P : Program} {w : World} {K : PySem.W.Frag} {mg : Str → Option Value} {base : Heap} {a : Ad} {d : Fd} (T : Txt w K mg base a d) : FnOk P w K mg base CX0 1 a.a_upward d.d_upward P_upward (spD ⟨K, w⟩ a.tabs [] P_upward.length f_upward) := by
  refine okD (k := 0) T.F_upward sc_upward fun A outer s H E S A0 hr => ?_
  exact (ss_cons (s_for PassesOwn.never rfl (w_enum (mlen_cons mlen_nil) (by rfl) T.z_enumerate (xa_cons (x_ix (o_ix (hu_of hr)) (xf 0) (xf 1) (fun _ _ => rfl)) xa_nil)) (fun _ => (g_tup rfl (gs_cons (gn 3 sc_upward.nd) (gs_cons (gn 4 sc_upward.nd) gs_nil gSet_keep) gSet_keep))) (fun _ => (ss_cons (s_if (t_cmp o_ge (xf 4) (xf 2)) (ss_cons (sret (x_if (t_cmp (o_eq hr.units) (xf 3) x_int) x_bl (x_tup (FrzT.pe_tupF (xa_cons x_str (xa_cons (xf 1) (xa_cons (xf 4) xa_nil)))))))
      ss_nil) ss_nil)
      ss_nil)))
      (ss_cons (sret x_bl)
      ss_nil))
def m_at_most : MS :=
  (mSeq (mRet (mCall f_norm [none, none] (mCons (mLc (mItems2 (mFrz 0)) (gSet 2) mYes (mApp gTupD (mCons (mApp gTupD (mCons (mFrz 2) (mCons (mC (.bool true)) mNil))) (mCons (mUn gNeg (mC (.int 1))) mNil))) [2]) (mCons (mUn gNeg (mFrz 1)) mNil))))
  mNext)
def f_at_most : List D → Option (D × List D) := runD N_at_most.length [] m_at_most
theorem ok_at_most {P : Program} {w : World} {K : PySem.W.Frag} {mg : Str → Option Value} {base : Heap} {a : Ad} {d : Fd} (T : Txt w K mg base a d) : FnOk P w K mg base CX0 2 a.a_at_most d.d_at_most P_at_most (spD ⟨K, w⟩ a.tabs [] P_at_most.length f_at_most) := by
  have G_norm := ok_norm (P := P) (w := w) T
  refine okD (k := 1) T.F_at_most sc_at_most fun A outer s H E S A0 hr => ?_
  exact (ss_cons (sret (x_call (ts := [none, none]) G_norm (hr.mono (by decide)) (by rfl) T.m_norm T.k_norm T.b_norm (xc_plain (x_new (x_lc (own := [("sign", 2)]) rfl sc_at_most.nd (w_seq2 (xf 0)) (blkOk_by (own := [("sign", 2)]) (N := N_at_most) (sc := defScope s_at_most) (by decide +kernel)) (fun _ _ _ _ _ _ => (gnW 2 sc_at_most.nd)) (fun _ _ _ _ _ _ => ts_nil) (fun _ _ _ _ _ _ => (x_tup (FrzT.pe_tupF (xa_cons (x_tup (FrzT.pe_tupF (xa_cons (xf 2) (xa_cons x_bl xa_nil)))) (xa_cons (x_neg x_int) xa_nil))))) (hv := nios rfl))) (xc_plain (x_neg (xf 1)) xc_nil))))
      ss_nil)
def m_at_least : MS :=
  (mSeq (mRet (mCall f_norm [none, none] (mCons (mLc (mItems2 (mFrz 0)) (gSet 2) mYes (mApp gTupD (mCons (mApp gTupD (mCons (mFrz 2) (mCons (mC (.bool true)) mNil))) (mCons (mC (.int 1)) mNil))) [2]) (mCons (mFrz 1) mNil))))
  mNext)
def f_at_least : List D → Option (D × List D) := runD N_at_least.length [] m_at_least
theorem ok_at_least {P : Program} {w : World} {K : PySem.W.Frag} {mg : Str → Option Value} {base : Heap} {a : Ad} {d : Fd} (T : Txt w K mg base a d) : FnOk P w K mg base CX0 2 a.a_at_least d.d_at_least P_at_least (spD ⟨K, w⟩ a.tabs [] P_at_least.length f_at_least) := by
  have G_norm := ok_norm (P := P) (w := w) T
  refine okD (k := 1) T.F_at_least sc_at_least fun A outer s H E S A0 hr => ?_
  exact (ss_cons (sret (x_call (ts := [none, none]) G_norm (hr.mono (by decide)) (by rfl) T.m_norm T.k_norm T.b_norm (xc_plain (x_new (x_lc (own := [("sign", 2)]) rfl sc_at_least.nd (w_seq2 (xf 0)) (blkOk_by (own := [("sign", 2)]) (N := N_at_least) (sc := defScope s_at_least) (by decide +kernel)) (fun _ _ _ _ _ _ => (gnW 2 sc_at_least.nd)) (fun _ _ _ _ _ _ => ts_nil) (fun _ _ _ _ _ _ => (x_tup (FrzT.pe_tupF (xa_cons (x_tup (FrzT.pe_tupF (xa_cons (xf 2) (xa_cons x_bl xa_nil)))) (xa_cons x_int xa_nil))))) (hv := nios rfl))) (xc_plain (xf 1) xc_nil))))
      ss_nil)
def m_value_pairs : MS :=
  (mSeq (mAsg (mBin gIx (mFrz 0) (mFrz 1)) (gSet 3))
  (mSeq (mRet (mLc (mRange gRange2 (mCons (mC (.int 1)) (mCons (mApp gLen (mCons (mFrz 3) mNil)) mNil))) (gSet 4) mYes (mApp gTupD (mCons (mApp gTupD (mCons (mApp gTupD (mCons (mC (.str "from")) (mCons (mFrz 1) (mCons (mBin gIx (mFrz 3) (mFrz 4)) mNil)))) (mCons (mC (.bool true)) mNil))) (mCons (mBin gMul (mFrz 2) (mBin gSub (mBin gIx (mFrz 3) (mFrz 4)) (mBin gIx (mFrz 3) (mBin gSub (mFrz 4) (mC (.int 1)))))) mNil))) [4]))
  mNext))
def f_value_pairs : List D → Option (D × List D) := runD N_value_pairs.length [] m_value_pairs
theorem ok_value_pairs {P : Program} {w : World} {K : PySem.W.Frag} {mg : Str → Option Value} {base : Heap} {a : Ad} {d : Fd} (T : Txt w K mg base a d) : FnOk P w K mg base CX0 1 a.a_value_pairs d.d_value_pairs P_value_pairs (spD ⟨K, w⟩ a.tabs [] P_value_pairs.length f_value_pairs) := by
  refine okD (k := 0) T.F_value_pairs sc_value_pairs fun A outer s H E S A0 hr => ?_
  exact (ss_cons (s_asg (x_ix (o_ix (hu_of hr)) (xf 0) (xf 1) (fun _ _ => rfl)) (gn 3 sc_value_pairs.nd))
      (ss_cons (sret (x_new (x_lc (own := [("at", 4)]) rfl sc_value_pairs.nd (w_range2 (by rfl) T.z_range (xa_cons x_int (xa_cons (x_callB c_len (by rfl) T.z_len (by decide +kernel) (xa_cons (xf 3) xa_nil)) xa_nil))) (blkOk_by (own := [("at", 4)]) (N := N_value_pairs) (sc := defScope s_value_pairs) (by decide +kernel)) (fun _ _ _ _ _ _ => (gnW 4 sc_value_pairs.nd)) (fun _ _ _ _ _ _ => ts_nil) (fun _ _ _ _ _ _ => (x_tup (FrzT.pe_tupF (xa_cons (x_tup (FrzT.pe_tupF (xa_cons (x_tup (FrzT.pe_tupF (xa_cons x_str (xa_cons (xf 1) (xa_cons (x_ix (o_ix (hu_of hr)) (xf 3) (xf 4) (fun _ _ => rfl)) xa_nil))))) (xa_cons x_bl xa_nil)))) (xa_cons (x_bin o_mul (xf 2) (x_bin o_sub (x_ix (o_ix (hu_of hr)) (xf 3) (xf 4) (fun _ _ => rfl)) (x_ix (o_ix (hu_of hr)) (xf 3) (x_bin o_sub (xf 4) x_int) (fun _ _ => rfl)))) xa_nil))))) (hv := nios rfl))))
      ss_nil))
def m_upward_pairs : MS :=
  (mSeq (mAsg (mCall f_upward [none, none, none] (mCons (mFrz 0) (mCons (mFrz 1) (mCons (mFrz 2) mNil)))) (gSet 4))
  (mSeq (mIfS (mB (mBin gIs (mFrz 4) (mC (.bool true)))) (mSeq (mRet (mApp gTupD (mCons (mFrz 3) (mCons (mApp gLstD mNil) mNil))))
  mNext) mNext)
  (mSeq (mRet (mApp gTupD (mCons (mC (.int 0)) (mCons (mIf (mB (mBin gIs (mFrz 4) (mC (.bool false)))) (mApp gLstD mNil) (mApp gLstD (mCons (mApp gTupD (mCons (mApp gTupD (mCons (mFrz 4) (mCons (mC (.bool true)) mNil))) (mCons (mFrz 3) mNil))) mNil))) mNil))))
  mNext)))
def f_upward_pairs : List D → Option (D × List D) := runD N_upward_pairs.length [] m_upward_pairs
theorem ok_upward_pairs {P : Program} {w : World} {K : PySem.W.Frag} {mg : Str → Option Value} {base : Heap} {a : Ad} {d : Fd} (T : Txt w K mg base a d) : FnOk P w K mg base CX0 2 a.a_upward_pairs d.d_upward_pairs P_upward_pairs (spD ⟨K, w⟩ a.tabs [] P_upward_pairs.length f_upward_pairs) := by
  have G_upward := ok_upward (P := P) (w := w) T
  refine okD (k := 1) T.F_upward_pairs sc_upward_pairs fun A outer s H E S A0 hr => ?_
  exact (ss_cons (s_asg (x_call (ts := [none, none, none]) G_upward (hr.mono (by decide)) (by rfl) T.m_upward T.k_upward T.b_upward (xc_plain (xf 0) (xc_plain (xf 1) (xc_plain (xf 2) xc_nil)))) (gn 4 sc_upward_pairs.nd))
      (ss_cons (s_if (t_cmp o_is (xf 4) x_bl) (ss_cons (sret (x_tup (FrzT.pe_tupF (xa_cons (xf 3) (xa_cons (x_lst (pe_lst xa_nil)) xa_nil)))))
      ss_nil) ss_nil)
      (ss_cons (sret (x_tup (FrzT.pe_tupF (xa_cons x_int (xa_cons (x_if (t_cmp o_is (xf 4) x_bl) (x_lst (pe_lst xa_nil)) (x_lst (pe_lst (xa_cons (x_tup (FrzT.pe_tupF (xa_cons (x_tup (FrzT.pe_tupF (xa_cons (xf 4) (xa_cons x_bl xa_nil)))) (xa_cons (xf 3) xa_nil)))) xa_nil)))) xa_nil)))))
      ss_nil)))
def m_sum_row : MS :=
  (mSeq (mAsg (mApp gLstD mNil) (gOwn 3))
  (mSeq (mFor (mItems2 (mFrz 1)) (gTupT 2 (gsCons (gSet 4) (gsCons (gSet 5) gsNil))) (mSeq (mExt 3 (mCall f_value_pairs [none, none, none] (mCons (mFrz 0) (mCons (mFrz 4) (mCons (mFrz 5) mNil)))))
  (mSeq (mAug 2 gSubI (mBin gMul (mFrz 5) (mBin gIx (mBin gIx (mFrz 0) (mFrz 4)) (mC (.int 0)))))
  mNext)))
  (mSeq (mRet (mCall f_norm [none, none] (mCons (mFrz 3) (mCons (mFrz 2) mNil))))
  mNext)))
def f_sum_row : List D → Option (D × List D) := runD N_sum_row.length [] m_sum_row
theorem ok_sum_row {P : Program} {w : World} {K : PySem.W.Frag} {mg : Str → Option Value} {base : Heap} {a : Ad} {d : Fd} (T : Txt w K mg base a d) : FnOk P w K mg base CX0 2 a.a_sum_row d.d_sum_row P_sum_row (spD ⟨K, w⟩ a.tabs [] P_sum_row.length f_sum_row) := by
  have G_norm := ok_norm (P := P) (w := w) T
  have G_value_pairs := ok_value_pairs (P := P) (w := w) T
  refine okD (k := 1) T.F_sum_row sc_sum_row fun A outer s H E S A0 hr => ?_
  exact (ss_cons (sown 3 sc_sum_row.nd (x_lstN (pe_lst xa_nil)))
      (ss_cons (s_for PassesOwn.never rfl (w_seq2 (xf 1)) (fun _ => (g_tup rfl (gs_cons (gn 4 sc_sum_row.nd) (gs_cons (gn 5 sc_sum_row.nd) gs_nil gSet_keep) gSet_keep))) (fun _ => (ss_cons (sextP 3 sc_sum_row.nd (x_call (ts := [none, none, none]) G_value_pairs (hr.mono (by decide)) (by rfl) T.m_value_pairs T.k_value_pairs T.b_value_pairs (xc_plain (xf 0) (xc_plain (xf 4) (xc_plain (xf 5) xc_nil)))))
      (ss_cons (saug 2 sc_sum_row.nd (x_bin o_mul (xf 5) (x_ix (o_ix (hu_of hr)) (x_ix (o_ix (hu_of hr)) (xf 0) (xf 4) (fun _ _ => rfl)) x_int (fun _ _ => rfl))) i_sub)
      ss_nil))))
      (ss_cons (sret (x_call (ts := [none, none]) G_norm (hr.mono (by decide)) (by rfl) T.m_norm T.k_norm T.b_norm (xc_plain (xf 3) (xc_plain (xf 2) xc_nil))))
      ss_nil)))
def m_with_part : MS :=
  (mSeq (mAsg (mFrz 0) (gTupT 2 (gsCons (gSet 2) (gsCons (gSet 3) gsNil))))
  (mSeq (mIfS (mB (mBin gEq (mFrz 3) (mC (.int 0)))) (mSeq (mRet (mFrz 0))
  mNext) mNext)
  (mSeq (mRet (mApp gTupD (mCons (mApp gTupOf (mCons (mApp gSorted5 (mCons (mBin gAdd (mFrz 2) (mApp gTupD (mCons (mApp gTupD (mCons (mFrz 1) (mCons (mFrz 3) mNil))) mNil))) mNil)) mNil)) (mCons (mFrz 3) mNil))))
  mNext)))
def f_with_part : List D → Option (D × List D) := runD N_with_part.length [] m_with_part
theorem ok_with_part {P : Program} {w : World} {K : PySem.W.Frag} {mg : Str → Option Value} {base : Heap} {a : Ad} {d : Fd} (T : Txt w K mg base a d) : FnOk P w K mg base CX0 1 a.a_with_part d.d_with_part P_with_part (spD ⟨K, w⟩ a.tabs [] P_with_part.length f_with_part) := by
  refine okD (k := 0) T.F_with_part sc_with_part fun A outer s H E S A0 hr => ?_
  exact (ss_cons (s_asg (xf 0) (g_tup rfl (gs_cons (gn 2 sc_with_part.nd) (gs_cons (gn 3 sc_with_part.nd) gs_nil gSet_keep) gSet_keep)))
      (ss_cons (s_if (t_cmp (o_eq hr.units) (xf 3) x_int) (ss_cons (sret (xf 0))
      ss_nil) ss_nil)
      (ss_cons (sret (x_tup (FrzT.pe_tupF (xa_cons (x_callTy c_tuple (by rfl) T.z_tuple (by decide +kernel) (xa_cons (x_callB (c_sorted5 rfl (hu65 hr)) (by rfl) T.z_sorted (by decide +kernel) (xa_cons (x_bin o_add (xf 2) (x_tup (FrzT.pe_tupF (xa_cons (x_tup (FrzT.pe_tupF (xa_cons (xf 1) (xa_cons (xf 3) xa_nil)))) xa_nil)))) xa_nil)) xa_nil)) (xa_cons (xf 3) xa_nil)))))
      ss_nil)))
def m_values_of : MS :=
  (mSeq (mRet (mUn gSetSort (mLc2 (mItems2 (mFrz 1)) (gSet 2) mYes (mItems2 (mBin gIx (mFrz 0) (mFrz 2))) (gSet 3) mYes (mFrz 3) [2, 3] [3])))
  mNext)
def f_values_of : List D → Option (D × List D) := runD N_values_of.length [] m_values_of
theorem ok_values_of {P : Program} {w : World} {K : PySem.W.Frag} {mg : Str → Option Value} {base : Heap} {a : Ad} {d : Fd} (T : Txt w K mg base a d) : FnOk P w K mg base CX0 1 a.a_values_of d.d_values_of P_values_of (spD ⟨K, w⟩ a.tabs [] P_values_of.length f_values_of) := by
  refine okD (k := 0) T.F_values_of sc_values_of fun A outer s H E S A0 hr => ?_
  exact (ss_cons (sret (x_new (x_setSort rfl (by rfl) T.z_sorted (by rfl) T.z_set (x_new (x_lc2 (own := [("name", 2), ("value", 3)]) (vs1 := [3]) rfl sc_values_of.nd (w_seq2 (xf 1)) (blkOk_by (own := [("name", 2), ("value", 3)]) (N := N_values_of) (sc := defScope s_values_of) (by decide +kernel)) (fun _ _ _ _ _ _ => (gnW 2 sc_values_of.nd)) (fun _ _ _ _ _ _ => ts_nil) (fun _ _ _ _ _ _ => (w_seq2 (x_ix (o_ix (hu_of hr)) (xf 0) (xf 2) (fun _ _ => rfl)))) (fun _ _ _ _ _ _ => (gnW 3 sc_values_of.nd)) (fun _ _ _ _ _ _ => ts_nil) (fun _ _ _ _ _ _ => (xf 3)) (hv := nios rfl))))))
      ss_nil)
def m_having : MS :=
  (mSeq (mRet (mLc (mItems2 (mFrz 1)) (gSet 3) (mB (mBin gIn (mFrz 2) (mBin gIx (mFrz 0) (mFrz 3)))) (mApp gTupD (mCons (mC (.str "is")) (mCons (mFrz 3) (mCons (mFrz 2) mNil)))) [3]))
  mNext)
def f_having : List D → Option (D × List D) := runD N_having.length [] m_having
theorem ok_having {P : Program} {w : World} {K : PySem.W.Frag} {mg : Str → Option Value} {base : Heap} {a : Ad} {d : Fd} (T : Txt w K mg base a d) : FnOk P w K mg base CX0 1 a.a_having d.d_having P_having (spD ⟨K, w⟩ a.tabs [] P_having.length f_having) := by
  refine okD (k := 0) T.F_having sc_having fun A outer s H E S A0 hr => ?_
  exact (ss_cons (sret (x_new (x_lc (own := [("name", 3)]) rfl sc_having.nd (w_seq2 (xf 1)) (blkOk_by (own := [("name", 3)]) (N := N_having) (sc := defScope s_having) (by decide +kernel)) (fun _ _ _ _ _ _ => (gnW 3 sc_having.nd)) (fun _ _ _ _ _ _ => (ts_one (t_cmp (o_in (hu65 hr)) (xf 2) (x_ix (o_ix (hu_of hr)) (xf 0) (xf 3) (fun _ _ => rfl))))) (fun _ _ _ _ _ _ => (x_tup (FrzT.pe_tupF (xa_cons x_str (xa_cons (xf 3) (xa_cons (xf 2) xa_nil)))))) (hv := nios rfl))))
      ss_nil)
def m_tell_least : MS :=
  (mSeq (mRet (mApp gLstD (mCons (mCall f_sum_row [none, none, none] (mCons (mFrz 0) (mCons (mBin gIx (mFrz 2) (mC (.int 1))) (mCons (mBin gIx (mFrz 2) (mC (.int 2))) mNil)))) mNil)))
  mNext)
def f_tell_least : List D → Option (D × List D) := runD N_tell_least.length [] m_tell_least
theorem ok_tell_least {P : Program} {w : World} {K : PySem.W.Frag} {mg : Str → Option Value} {base : Heap} {a : Ad} {d : Fd} (T : Txt w K mg base a d) : FnOk P w K mg base CX0 3 a.a_tell_least d.d_tell_least P_tell_least (spD ⟨K, w⟩ a.tabs [] P_tell_least.length f_tell_least) := by
  have G_sum_row := ok_sum_row (P := P) (w := w) T
  refine okD (k := 2) T.F_tell_least sc_tell_least fun A outer s H E S A0 hr => ?_
  exact (ss_cons (sret (x_lst (pe_lst (xa_cons (x_call (ts := [none, none, none]) G_sum_row (hr.mono (by decide)) (by rfl) T.m_sum_row T.k_sum_row T.b_sum_row (xc_plain (xf 0) (xc_plain (x_ix (o_ix (hu_of hr)) (xf 2) x_int (fun _ _ => rfl)) (xc_plain (x_ix (o_ix (hu_of hr)) (xf 2) x_int (fun _ _ => rfl)) xc_nil)))) xa_nil))))
      ss_nil)
def m_tell_same : MS :=
  (mSeq (mAsg (mLc (mItems2 (mBin gIx (mFrz 2) (mC (.int 1)))) (gTupT 2 (gsCons (gSet 4) (gsCons (gSet 5) gsNil))) mYes (mApp gTupD (mCons (mFrz 4) (mCons (mUn gNeg (mFrz 5)) mNil))) [4, 5]) (gSet 3))
  (mSeq (mRet (mApp gLstD (mCons (mCall f_sum_row [none, none, none] (mCons (mFrz 0) (mCons (mBin gIx (mFrz 2) (mC (.int 1))) (mCons (mBin gIx (mFrz 2) (mC (.int 2))) mNil)))) (mCons (mCall f_sum_row [none, none, none] (mCons (mFrz 0) (mCons (mFrz 3) (mCons (mUn gNeg (mBin gIx (mFrz 2) (mC (.int 2)))) mNil)))) mNil))))
  mNext))
def f_tell_same : List D → Option (D × List D) := runD N_tell_same.length [] m_tell_same
theorem ok_tell_same {P : Program} {w : World} {K : PySem.W.Frag} {mg : Str → Option Value} {base : Heap} {a : Ad} {d : Fd} (T : Txt w K mg base a d) : FnOk P w K mg base CX0 3 a.a_tell_same d.d_tell_same P_tell_same (spD ⟨K, w⟩ a.tabs [] P_tell_same.length f_tell_same) := by
  have G_sum_row := ok_sum_row (P := P) (w := w) T
  refine okD (k := 2) T.F_tell_same sc_tell_same fun A outer s H E S A0 hr => ?_
  exact (ss_cons (sset_lc 3 (own := [("x", 4), ("weight", 5)]) rfl sc_tell_same.nd (w_seq2 (x_ix (o_ix (hu_of hr)) (xf 2) x_int (fun _ _ => rfl))) (blkOk_by (own := [("x", 4), ("weight", 5)]) (N := N_tell_same) (sc := defScope s_tell_same) (by decide +kernel)) (fun _ _ _ _ _ _ => (g_tupW rfl (gs_consW (gnW 4 sc_tell_same.nd) (gs_consW (gnW 5 sc_tell_same.nd) gs_nilW)))) (fun _ _ _ _ _ _ => ts_nil) (fun _ _ _ _ _ _ => (x_tup (FrzT.pe_tupF (xa_cons (xf 4) (xa_cons (x_neg (xf 5)) xa_nil))))) (hv := nios rfl))
      (ss_cons (sret (x_lst (pe_lst (xa_cons (x_call (ts := [none, none, none]) G_sum_row (hr.mono (by decide)) (by rfl) T.m_sum_row T.k_sum_row T.b_sum_row (xc_plain (xf 0) (xc_plain (x_ix (o_ix (hu_of hr)) (xf 2) x_int (fun _ _ => rfl)) (xc_plain (x_ix (o_ix (hu_of hr)) (xf 2) x_int (fun _ _ => rfl)) xc_nil)))) (xa_cons (x_call (ts := [none, none, none]) G_sum_row (hr.mono (by decide)) (by rfl) T.m_sum_row T.k_sum_row T.b_sum_row (xc_plain (xf 0) (xc_plain (xf 3) (xc_plain (x_neg (x_ix (o_ix (hu_of hr)) (xf 2) x_int (fun _ _ => rfl))) xc_nil)))) xa_nil)))))
      ss_nil))
def m_tell_unlike : MS :=
  (mSeq (mAsg (mLc (mItems2 (mCall f_values_of [none, none] (mCons (mFrz 0) (mCons (mBin gIx (mFrz 2) (mC (.int 1))) mNil)))) (gSet 4) mYes (mCall f_having [none, none, none] (mCons (mFrz 0) (mCons (mBin gIx (mFrz 2) (mC (.int 1))) (mCons (mFrz 4) mNil)))) [4]) (gSet 3))
  (mSeq (mRet (mLc (mItems2 (mFrz 3)) (gSet 5) (mB (mBin gGt (mApp gLen (mCons (mFrz 5) mNil)) (mC (.int 1)))) (mCall f_at_most [none, none] (mCons (mFrz 5) (mCons (mC (.int 1)) mNil))) [5]))
  mNext))
def f_tell_unlike : List D → Option (D × List D) := runD N_tell_unlike.length [] m_tell_unlike
theorem ok_tell_unlike {P : Program} {w : World} {K : PySem.W.Frag} {mg : Str → Option Value} {base : Heap} {a : Ad} {d : Fd} (T : Txt w K mg base a d) : FnOk P w K mg base CX0 3 a.a_tell_unlike d.d_tell_unlike P_tell_unlike (spD ⟨K, w⟩ a.tabs [] P_tell_unlike.length f_tell_unlike) := by
  have G_at_most := ok_at_most (P := P) (w := w) T
  have G_values_of := ok_values_of (P := P) (w := w) T
  have G_having := ok_having (P := P) (w := w) T
  refine okD (k := 2) T.F_tell_unlike sc_tell_unlike fun A outer s H E S A0 hr => ?_
  exact (ss_cons (sset_lc 3 (own := [("value", 4)]) rfl sc_tell_unlike.nd (w_seq2 (x_call (ts := [none, none]) G_values_of (hr.mono (by decide)) (by rfl) T.m_values_of T.k_values_of T.b_values_of (xc_plain (xf 0) (xc_plain (x_ix (o_ix (hu_of hr)) (xf 2) x_int (fun _ _ => rfl)) xc_nil)))) (blkOk_by (own := [("value", 4)]) (N := N_tell_unlike) (sc := defScope s_tell_unlike) (by decide +kernel)) (fun _ _ _ _ _ _ => (gnW 4 sc_tell_unlike.nd)) (fun _ _ _ _ _ _ => ts_nil) (fun _ _ _ _ _ _ => (x_call (ts := [none, none, none]) G_having (hr.mono (by decide)) (by rfl) T.m_having T.k_having T.b_having (xc_plain (xf 0) (xc_plain (x_ix (o_ix (hu_of hr)) (xf 2) x_int (fun _ _ => rfl)) (xc_plain (xf 4) xc_nil))))) (hv := nios rfl))
      (ss_cons (sret (x_new (x_lc (own := [("lot", 5)]) rfl sc_tell_unlike.nd (w_seq2 (xf 3)) (blkOk_by (own := [("lot", 5)]) (N := N_tell_unlike) (sc := defScope s_tell_unlike) (by decide +kernel)) (fun _ _ _ _ _ _ => (gnW 5 sc_tell_unlike.nd)) (fun _ _ _ _ _ _ => (ts_one (t_cmp o_gt (x_callB c_len (by rfl) T.z_len (by decide +kernel) (xa_cons (xf 5) xa_nil)) x_int))) (fun _ _ _ _ _ _ => (x_call (ts := [none, none]) G_at_most (hr.mono (by decide)) (by rfl) T.m_at_most T.k_at_most T.b_at_most (xc_plain (xf 5) (xc_plain x_int xc_nil)))) (hv := nios rfl))))
      ss_nil))
def m_tell_counts : MS :=
  (mSeq (mAsg (mApp gLstD mNil) (gOwn 3))
  (mSeq (mFor (mItems2 (mBin gIx (mFrz 2) (mC (.int 2)))) (gTupT 3 (gsCons (gSet 4) (gsCons (gSet 5) (gsCons (gSet 6) gsNil)))) (mSeq (mAsg (mCall f_having [none, none, none] (mCons (mFrz 0) (mCons (mBin gIx (mFrz 2) (mC (.int 1))) (mCons (mFrz 4) mNil)))) (gSet 7))
  (mSeq (mExt 3 (mApp gLstD (mCons (mCall f_at_least [none, none] (mCons (mFrz 7) (mCons (mFrz 5) mNil))) (mCons (mCall f_at_most [none, none] (mCons (mFrz 7) (mCons (mFrz 6) mNil))) mNil))))
  mNext)))
  (mSeq (mRet (mFrz 3))
  mNext)))
def f_tell_counts : List D → Option (D × List D) := runD N_tell_counts.length [] m_tell_counts
theorem ok_tell_counts {P : Program} {w : World} {K : PySem.W.Frag} {mg : Str → Option Value} {base : Heap} {a : Ad} {d : Fd} (T : Txt w K mg base a d) : FnOk P w K mg base CX0 3 a.a_tell_counts d.d_tell_counts P_tell_counts (spD ⟨K, w⟩ a.tabs [] P_tell_counts.length f_tell_counts) := by
  have G_at_most := ok_at_most (P := P) (w := w) T
  have G_at_least := ok_at_least (P := P) (w := w) T
  have G_having := ok_having (P := P) (w := w) T
  refine okD (k := 2) T.F_tell_counts sc_tell_counts fun A outer s H E S A0 hr => ?_
  exact (ss_cons (sown 3 sc_tell_counts.nd (x_lstN (pe_lst xa_nil)))
      (ss_cons (s_for PassesOwn.never rfl (w_seq2 (x_ix (o_ix (hu_of hr)) (xf 2) x_int (fun _ _ => rfl))) (fun _ => (g_tup rfl (gs_cons (gn 4 sc_tell_counts.nd) (gs_cons (gn 5 sc_tell_counts.nd) (gs_cons (gn 6 sc_tell_counts.nd) gs_nil gSet_keep) gSet_keep) gSet_keep))) (fun _ => (ss_cons (s_asg (x_call (ts := [none, none, none]) G_having (hr.mono (by decide)) (by rfl) T.m_having T.k_having T.b_having (xc_plain (xf 0) (xc_plain (x_ix (o_ix (hu_of hr)) (xf 2) x_int (fun _ _ => rfl)) (xc_plain (xf 4) xc_nil)))) (gn 7 sc_tell_counts.nd))
      (ss_cons (sext 3 sc_tell_counts.nd (x_lstN (pe_lst (xa_cons (x_call (ts := [none, none]) G_at_least (hr.mono (by decide)) (by rfl) T.m_at_least T.k_at_least T.b_at_least (xc_plain (xf 7) (xc_plain (xf 5) xc_nil))) (xa_cons (x_call (ts := [none, none]) G_at_most (hr.mono (by decide)) (by rfl) T.m_at_most T.k_at_most T.b_at_most (xc_plain (xf 7) (xc_plain (xf 6) xc_nil))) xa_nil)))))
      ss_nil))))
      (ss_cons (sret (xf 3))
      ss_nil)))
def m_tell_works : MS :=
  (mSeq (mAsg (mApp gLstD mNil) (gOwn 3))
  (mSeq (mFor (mItems2 (mCall f_values_of [none, none] (mCons (mFrz 0) (mCons (mBin gIx (mFrz 2) (mC (.int 1))) mNil)))) (gSet 4) (mSeq (mParN 5 6 (mUn gNeg (mBin gIx (mFrz 2) (mC (.int 4)))))
  (mSeq (mFor (mRange gZip (mCons (mBin gIx (mFrz 2) (mC (.int 1))) (mCons (mBin gIx (mFrz 2) (mC (.int 2))) (mCons (mBin gIx (mFrz 2) (mC (.int 3))) mNil)))) (gTupT 3 (gsCons (gSet 7) (gsCons (gSet 8) (gsCons (gSet 9) gsNil)))) (mSeq (mFor (mItems2 (mApp gTupD (mCons (mApp gTupD (mCons (mBin gAdd (mBin gSub (mFrz 4) (mFrz 8)) (mC (.int 1))) (mCons (mUn gNeg (mFrz 9)) mNil))) (mCons (mApp gTupD (mCons (mBin gAdd (mFrz 4) (mC (.int 1))) (mCons (mFrz 9) mNil))) mNil)))) (gTupT 2 (gsCons (gSet 10) (gsCons (gSet 11) gsNil))) (mSeq (mAsg (mCall f_upward_pairs [none, none, none, none] (mCons (mFrz 0) (mCons (mFrz 7) (mCons (mFrz 10) (mCons (mFrz 11) mNil))))) (gTupT 2 (gsCons (gSet 12) (gsCons (gSet 13) gsNil))))
  (mSeq (mExt 5 (mFrz 13))
  (mSeq (mAug 6 gSubI (mFrz 12))
  mNext))))
  mNext))
  (mSeq (mDrop (mMut 3 gApp (mCall f_norm [none, none] (mCons (mFrz 5) (mCons (mFrz 6) mNil)))))
  mNext))))
  (mSeq (mRet (mFrz 3))
  mNext)))
def f_tell_works : List D → Option (D × List D) := runD N_tell_works.length [] m_tell_works
theorem ok_tell_works {P : Program} {w : World} {K : PySem.W.Frag} {mg : Str → Option Value} {base : Heap} {a : Ad} {d : Fd} (T : Txt w K mg base a d) : FnOk P w K mg base CX0 3 a.a_tell_works d.d_tell_works P_tell_works (spD ⟨K, w⟩ a.tabs [] P_tell_works.length f_tell_works) := by
  have G_values_of := ok_values_of (P := P) (w := w) T
  have G_norm := ok_norm (P := P) (w := w) T
  have G_upward_pairs := ok_upward_pairs (P := P) (w := w) T
  refine okD (k := 2) T.F_tell_works sc_tell_works fun A outer s H E S A0 hr => ?_
  exact (ss_cons (sown 3 sc_tell_works.nd (x_lstN (pe_lst xa_nil)))
      (ss_cons (s_for PassesOwn.never rfl (w_seq2 (x_call (ts := [none, none]) G_values_of (hr.mono (by decide)) (by rfl) T.m_values_of T.k_values_of T.b_values_of (xc_plain (xf 0) (xc_plain (x_ix (o_ix (hu_of hr)) (xf 2) x_int (fun _ _ => rfl)) xc_nil)))) (fun _ => (gn 4 sc_tell_works.nd)) (fun _ => (ss_cons (s_parN 5 6 rfl sc_tell_works.nd (x_neg (x_ix (o_ix (hu_of hr)) (xf 2) x_int (fun _ _ => rfl))))
      (ss_cons (s_for PassesOwn.never rfl (w_zip3 (mlen_cons (mlen_cons (mlen_cons mlen_nil))) (by rfl) T.z_zip (xa_cons (x_ix (o_ix (hu_of hr)) (xf 2) x_int (fun _ _ => rfl)) (xa_cons (x_ix (o_ix (hu_of hr)) (xf 2) x_int (fun _ _ => rfl)) (xa_cons (x_ix (o_ix (hu_of hr)) (xf 2) x_int (fun _ _ => rfl)) xa_nil)))) (fun _ => (g_tup rfl (gs_cons (gn 7 sc_tell_works.nd) (gs_cons (gn 8 sc_tell_works.nd) (gs_cons (gn 9 sc_tell_works.nd) gs_nil gSet_keep) gSet_keep) gSet_keep))) (fun _ => (ss_cons (s_for PassesOwn.never rfl (w_seq2 (x_tup (FrzT.pe_tupF (xa_cons (x_tup (FrzT.pe_tupF (xa_cons (x_bin o_add (x_bin o_sub (xf 4) (xf 8)) x_int) (xa_cons (x_neg (xf 9)) xa_nil)))) (xa_cons (x_tup (FrzT.pe_tupF (xa_cons (x_bin o_add (xf 4) x_int) (xa_cons (xf 9) xa_nil)))) xa_nil))))) (fun _ => (g_tup rfl (gs_cons (gn 10 sc_tell_works.nd) (gs_cons (gn 11 sc_tell_works.nd) gs_nil gSet_keep) gSet_keep))) (fun _ => (ss_cons (s_asg (x_call (ts := [none, none, none, none]) G_upward_pairs (hr.mono (by decide)) (by rfl) T.m_upward_pairs T.k_upward_pairs T.b_upward_pairs (xc_plain (xf 0) (xc_plain (xf 7) (xc_plain (xf 10) (xc_plain (xf 11) xc_nil))))) (g_tup rfl (gs_cons (gn 12 sc_tell_works.nd) (gs_cons (gn 13 sc_tell_works.nd) gs_nil gSet_keep) gSet_keep)))
      (ss_cons (sextP 5 sc_tell_works.nd (xf 13))
      (ss_cons (saug 6 sc_tell_works.nd (xf 12) i_sub)
      ss_nil)))))
      ss_nil)))
      (ss_cons (s_expr (x_append (i := 3) rfl (by first | exact Or.inl rfl | exact Or.inr (Or.inl rfl) | exact Or.inr (Or.inr rfl)) (x_call (ts := [none, none]) G_norm (hr.mono (by decide)) (by rfl) T.m_norm T.k_norm T.b_norm (xc_plain (xf 5) (xc_plain (xf 6) xc_nil)))))
      ss_nil)))))
      (ss_cons (sret (xf 3))
      ss_nil)))
def m_telling_rows_of : MS :=
  (mSeq (mRet (mTab [("least", f_tell_least), ("same", f_tell_same), ("unlike", f_tell_unlike), ("counts", f_tell_counts), ("works", f_tell_works)] [none, none, none] (mBin gIx (mFrz 2) (mC (.int 0))) (mCons (mFrz 0) (mCons (mFrz 1) (mCons (mFrz 2) mNil)))))
  mNext)
def f_telling_rows_of : List D → Option (D × List D) := runD N_telling_rows_of.length [] m_telling_rows_of
theorem ok_telling_rows_of {P : Program} {w : World} {K : PySem.W.Frag} {mg : Str → Option Value} {base : Heap} {a : Ad} {d : Fd} (T : Txt w K mg base a d) : FnOk P w K mg base CX0 4 a.a_telling_rows_of d.d_telling_rows_of P_telling_rows_of (spD ⟨K, w⟩ a.tabs [] P_telling_rows_of.length f_telling_rows_of) := by
  have G_tell_least := ok_tell_least (P := P) (w := w) T
  have G_tell_same := ok_tell_same (P := P) (w := w) T
  have G_tell_unlike := ok_tell_unlike (P := P) (w := w) T
  have G_tell_counts := ok_tell_counts (P := P) (w := w) T
  have G_tell_works := ok_tell_works (P := P) (w := w) T
  refine okD (k := 3) T.F_telling_rows_of sc_telling_rows_of fun A outer s H E S A0 hr => ?_
  exact (ss_cons (sret (x_tab (k := 3) (ts := [none, none, none]) (tabOk_cons T.kd_TELLING_ROWS_least (by decide) G_tell_least T.k_tell_least T.b_tell_least rfl (tabOk_cons T.kd_TELLING_ROWS_same (by decide) G_tell_same T.k_tell_same T.b_tell_same rfl (tabOk_cons T.kd_TELLING_ROWS_unlike (by decide) G_tell_unlike T.k_tell_unlike T.b_tell_unlike rfl (tabOk_cons T.kd_TELLING_ROWS_counts (by decide) G_tell_counts T.k_tell_counts T.b_tell_counts rfl (tabOk_cons T.kd_TELLING_ROWS_works (by decide) G_tell_works T.k_tell_works T.b_tell_works rfl tabOk_nil))))) (hr.mono (by decide)) (by rfl) T.h_TELLING_ROWS (x_ix (o_ix (hu_of hr)) (xf 2) x_int (fun _ _ => rfl)) (xc_plain (xf 0) (xc_plain (xf 1) (xc_plain (xf 2) xc_nil)))))
      ss_nil)
def m_telling_rows : MS :=
  (mSeq (mAsg (mCall f_telling_rows_of [none, none, none] (mCons (mCall f_domains_of [none] (mCons (mFrz 0) mNil)) (mCons (mFrz 1) (mCons (mBin gIx (mCall f_said_in [none] (mCons (mFrz 0) mNil)) (mFrz 1)) mNil)))) (gSet 2))
  (mSeq (mIfS (mB (mBin gIn (mFrz 1) (mCall f_prices_of [none] (mCons (mFrz 0) mNil)))) (mSeq (mAsg (mLc (mItems2 (mFrz 2)) (gSet 3) mYes (mCall f_with_part [none, none] (mCons (mFrz 3) (mCons (mApp gTupD (mCons (mApp gTupD (mCons (mC (.str "kept")) (mCons (mFrz 1) mNil))) (mCons (mC (.bool false)) mNil))) mNil))) [3]) (gSet 2))
  mNext) mNext)
  (mSeq (mRet (mApp gTupOf (mCons (mFrz 2) mNil)))
  mNext)))
def f_telling_rows : List D → Option (D × List D) := runD N_telling_rows.length [] m_telling_rows
theorem ok_telling_rows {P : Program} {w : World} {K : PySem.W.Frag} {mg : Str → Option Value} {base : Heap} {a : Ad} {d : Fd} (T : Txt w K mg base a d) : FnOk P w K mg base CX0 5 a.a_telling_rows d.d_telling_rows P_telling_rows (spD ⟨K, w⟩ a.tabs [] P_telling_rows.length f_telling_rows) := by
  have G_prices_of := ok_prices_of (P := P) (w := w) T
  have G_with_part := ok_with_part (P := P) (w := w) T
  have G_telling_rows_of := ok_telling_rows_of (P := P) (w := w) T
  have G_said_in := ok_said_in (P := P) (w := w) T
  have G_domains_of := ok_domains_of (P := P) (w := w) T
  refine okD (k := 4) T.F_telling_rows sc_telling_rows fun A outer s H E S A0 hr => ?_
  exact (ss_cons (s_asg (x_call (ts := [none, none, none]) G_telling_rows_of (hr.mono (by decide)) (by rfl) T.m_telling_rows_of T.k_telling_rows_of T.b_telling_rows_of (xc_plain (x_call (ts := [none]) G_domains_of (hr.mono (by decide)) (by rfl) T.m_domains_of T.k_domains_of T.b_domains_of (xc_plain (xf 0) xc_nil)) (xc_plain (xf 1) (xc_plain (x_ix (o_ix (hu_of hr)) (x_call (ts := [none]) G_said_in (hr.mono (by decide)) (by rfl) T.m_said_in T.k_said_in T.b_said_in (xc_plain (xf 0) xc_nil)) (xf 1) (fun _ _ => rfl)) xc_nil)))) (gn 2 sc_telling_rows.nd))
      (ss_cons (s_if (t_cmp (o_in (hu65 hr)) (xf 1) (x_call (ts := [none]) G_prices_of (hr.mono (by decide)) (by rfl) T.m_prices_of T.k_prices_of T.b_prices_of (xc_plain (xf 0) xc_nil))) (ss_cons (sset_lc 2 (own := [("row", 3)]) rfl sc_telling_rows.nd (w_seq2 (xf 2)) (blkOk_by (own := [("row", 3)]) (N := N_telling_rows) (sc := defScope s_telling_rows) (by decide +kernel)) (fun _ _ _ _ _ _ => (gnW 3 sc_telling_rows.nd)) (fun _ _ _ _ _ _ => ts_nil) (fun _ _ _ _ _ _ => (x_call (ts := [none, none]) G_with_part (hr.mono (by decide)) (by rfl) T.m_with_part T.k_with_part T.b_with_part (xc_plain (xf 3) (xc_plain (x_tup (FrzT.pe_tupF (xa_cons (x_tup (FrzT.pe_tupF (xa_cons x_str (xa_cons (xf 1) xa_nil)))) (xa_cons x_bl xa_nil)))) xc_nil)))) (hv := nios rfl))
      ss_nil) ss_nil)
      (ss_cons (sret (x_callTy c_tuple (by rfl) T.z_tuple (by decide +kernel) (xa_cons (xf 2) xa_nil)))
      ss_nil)))
def m__law_pool : MS :=
  (mSeq (mRet (mBin gAddN (mApp gLstD (mCons (mC (.int 0)) (mCons (mC (.int 7)) (mCons (mC (.int 3)) mNil)))) (mApp gListOf2 (mCons (mFrz 0) mNil))))
  mNext)
def f__law_pool : List D → Option (D × List D) := runN N__law_pool.length [] m__law_pool
theorem ok__law_pool {P : Program} {w : World} {K : PySem.W.Frag} {mg : Str → Option Value} {base : Heap} {a : Ad} {d : Fd} (T : Txt w K mg base a d) : FnOk P w K mg base CX0 1 a.a__law_pool d.d__law_pool P__law_pool (spN ⟨K, w⟩ a.tabs [] P__law_pool.length f__law_pool) := by
  refine okN (k := 0) T.F__law_pool sc__law_pool fun A outer s H E S A0 hr => ?_
  exact (ss_cons (s_retNew (x_addN (x_lst (pe_lst (xa_cons x_int (xa_cons x_int (xa_cons x_int xa_nil))))) (x_new (x_callTyN (c_listN2 rfl) (by rfl) T.z_list (by decide +kernel) (xa_cons (xf 0) xa_nil)))))
      ss_nil)
def m__law_draw : MS :=
  (mSeq (mIfS (mAndT (mB (mBin gEq (mBin gIx (mVar 0) (mC (.int 0))) (mC (.int 0)))) (mB (mBin gLt (mBin gIx (mVar 0) (mC (.int 2))) (mApp gLen (mCons (mVar 0) mNil))))) (mSeq (mAsg (mBin gIx (mVar 0) (mBin gIx (mVar 0) (mC (.int 2)))) (gSet 2))
  (mSeq (mPut 0 (mC (.int 2)) (mBin gAdd (mBin gIx (mVar 0) (mC (.int 2))) (mC (.int 1))))
  (mSeq (mPut 0 (mC (.int 1)) (mBin gMod (mApp gInt (mCons (mBin gAdd (mBin gMul (mBin gIx (mVar 0) (mC (.int 1))) (mC (.int 31))) (mFrz 2)) mNil)) (mC (.int 2147483647))))
  (mSeq (mIfS (mB (mBin gGe (mApp gAbs (mCons (mFrz 2) mNil)) (mBin gPow (mC (.int 10)) (mC (.int 18))))) (mSeq (mPut 0 (mC (.int 0)) (mApp gAbs (mCons (mFrz 2) mNil)))
  mNext) mNext)
  mNext)))) mNext)
  (mSeq (mIfS (mB (mBin gGt (mBin gIx (mVar 0) (mC (.int 0))) (mC (.int 0)))) (mSeq (mAsg (mBin gMod (mApp gInt (mCons (mBin gIx (mVar 0) (mC (.int 0))) mNil)) (mFrz 1)) (gSet 3))
  (mSeq (mPut 0 (mC (.int 0)) (mBin gDiv (mBin gIx (mVar 0) (mC (.int 0))) (mFrz 1)))
  (mSeq (mRet (mFrz 3))
  mNext))) mNext)
  (mSeq (mPut 0 (mC (.int 1)) (mBin gMod (mApp gInt (mCons (mBin gAdd (mBin gMul (mBin gIx (mVar 0) (mC (.int 1))) (mC (.int 48271))) (mC (.int 12345))) mNil)) (mC (.int 2147483647))))
  (mSeq (mAsg (mBin gMod (mApp gInt (mCons (mBin gAdd (mBin gAdd (mBin gMul (mBin gIx (mVar 0) (mC (.int 1))) (mC (.int 69621))) (mBin gDiv (mBin gIx (mVar 0) (mC (.int 1))) (mC (.int 65536)))) (mC (.int 17))) mNil)) (mC (.int 2147483629))) (gSet 4))
  (mSeq (mRet (mBin gMod (mApp gInt (mCons (mBin gDiv (mFrz 4) (mC (.int 16))) mNil)) (mFrz 1)))
  mNext)))))
def f__law_draw : List D → Option (D × List D) := runD N__law_draw.length [0] m__law_draw
theorem ok__law_draw {P : Program} {w : World} {K : PySem.W.Frag} {mg : Str → Option Value} {base : Heap} {a : Ad} {d : Fd} (T : Txt w K mg base a d) : FnOk P w K mg base CX0 1 a.a__law_draw d.d__law_draw P__law_draw (spD ⟨K, w⟩ a.tabs [0] P__law_draw.length f__law_draw) := by
  refine okD (k := 0) T.F__law_draw sc__law_draw fun A outer s H E S A0 hr => ?_
  exact (ss_cons (s_if (PW.pt (t_and (t_cmp (o_eq hr.units) (x_ix (o_ix (hu_of hr)) (xv 0) x_int (fun _ _ => rfl)) x_int) (t_and1 (t_cmp o_lt (x_ix (o_ix (hu_of hr)) (xv 0) x_int (fun _ _ => rfl)) (x_callB c_len (by rfl) T.z_len (by decide +kernel) (xa_cons (xv 0) xa_nil)))))) (ss_cons (s_asg (x_ix (o_ix (hu_of hr)) (xv 0) (x_ix (o_ix (hu_of hr)) (xv 0) x_int (fun _ _ => rfl)) (fun _ _ => rfl)) (gn 2 sc__law_draw.nd))
      (ss_cons (sput 0 (hu_of hr) x_int (x_bin o_add (x_ix (o_ix (hu_of hr)) (xv 0) x_int (fun _ _ => rfl)) x_int))
      (ss_cons (sput 0 (hu_of hr) x_int (x_bin o_mod (x_callTy c_int (by rfl) T.z_int (by decide +kernel) (xa_cons (x_bin o_add (x_bin o_mul (x_ix (o_ix (hu_of hr)) (xv 0) x_int (fun _ _ => rfl)) x_int) (xf 2)) xa_nil)) x_int))
      (ss_cons (s_if (t_cmp o_ge (x_callB c_abs (by rfl) T.z_abs (by decide +kernel) (xa_cons (xf 2) xa_nil)) (x_bin o_pow x_int x_int)) (ss_cons (sput 0 (hu_of hr) x_int (x_callB c_abs (by rfl) T.z_abs (by decide +kernel) (xa_cons (xf 2) xa_nil)))
      ss_nil) ss_nil)
      ss_nil)))) ss_nil)
      (ss_cons (s_if (t_cmp o_gt (x_ix (o_ix (hu_of hr)) (xv 0) x_int (fun _ _ => rfl)) x_int) (ss_cons (s_asg (x_bin o_mod (x_callTy c_int (by rfl) T.z_int (by decide +kernel) (xa_cons (x_ix (o_ix (hu_of hr)) (xv 0) x_int (fun _ _ => rfl)) xa_nil)) (xf 1)) (gn 3 sc__law_draw.nd))
      (ss_cons (sput 0 (hu_of hr) x_int (x_bin o_div (x_ix (o_ix (hu_of hr)) (xv 0) x_int (fun _ _ => rfl)) (xf 1)))
      (ss_cons (sret (xf 3))
      ss_nil))) ss_nil)
      (ss_cons (sput 0 (hu_of hr) x_int (x_bin o_mod (x_callTy c_int (by rfl) T.z_int (by decide +kernel) (xa_cons (x_bin o_add (x_bin o_mul (x_ix (o_ix (hu_of hr)) (xv 0) x_int (fun _ _ => rfl)) x_int) x_int) xa_nil)) x_int))
      (ss_cons (s_asg (x_bin o_mod (x_callTy c_int (by rfl) T.z_int (by decide +kernel) (xa_cons (x_bin o_add (x_bin o_add (x_bin o_mul (x_ix (o_ix (hu_of hr)) (xv 0) x_int (fun _ _ => rfl)) x_int) (x_bin o_div (x_ix (o_ix (hu_of hr)) (xv 0) x_int (fun _ _ => rfl)) x_int)) x_int) xa_nil)) x_int) (gn 4 sc__law_draw.nd))
      (ss_cons (sret (x_bin o_mod (x_callTy c_int (by rfl) T.z_int (by decide +kernel) (xa_cons (x_bin o_div (xf 4) x_int) xa_nil)) (xf 1)))
      ss_nil)))))
def m__law_so (rec : List D → Option (D × List D)) : MS :=
  (mSeq (mIfS (mB (mUn (gIsi "tuple") (mFrz 1))) (mSeq (mIfS (mOrT (mNotT (mB (mUn (gIsi "tuple") (mFrz 0)))) (mB (mBin gNe (mApp gLen (mCons (mFrz 0) mNil)) (mApp gLen (mCons (mFrz 1) mNil))))) (mSeq (mRet (mC (.bool false)))
  mNext) mNext)
  (mSeq (mFor (mRange gRange1 (mCons (mApp gLen (mCons (mFrz 1) mNil)) mNil)) (gSet 2) (mSeq (mIfS (mNotT (mB (mCall rec [none, none] (mCons (mBin gIx (mFrz 0) (mFrz 2)) (mCons (mBin gIx (mFrz 1) (mFrz 2)) mNil))))) (mSeq (mRet (mC (.bool false)))
  mNext) mNext)
  mNext))
  (mSeq (mRet (mC (.bool true)))
  mNext))) mNext)
  (mSeq (mIfS (mOrT (mB (mUn (gIsi "bool") (mFrz 1))) (mB (mUn (gIsi "bool") (mFrz 0)))) (mSeq (mRet (mAndV (mUn (gIsi "bool") (mFrz 1)) (mAndV (mUn (gIsi "bool") (mFrz 0)) (mBin gEq (mFrz 0) (mFrz 1)))))
  mNext) mNext)
  (mSeq (mIfS (mB (mUn (gIsi "int") (mFrz 1))) (mSeq (mRet (mAndV (mUn (gIsi "int") (mFrz 0)) (mBin gEq (mFrz 0) (mFrz 1))))
  mNext) mNext)
  (mSeq (mRet (mAndV (mUn (gIsi "str") (mFrz 0)) (mBin gEq (mFrz 0) (mFrz 1))))
  mNext))))
def f__law_so : Nat → List D → Option (D × List D)
  | 0 => runD N__law_so.length [] mBad
  | n + 1 => runD N__law_so.length [] (m__law_so (f__law_so n))
theorem ok__law_so {P : Program} {w : World} {K : PySem.W.Frag} {mg : Str → Option Value} {base : Heap} {a : Ad} {d : Fd} (T : Txt w K mg base a d) : ∀ n : Nat, FnOk P w K mg base CX0 (1 + 1 * n) a.a__law_so d.d__law_so P__law_so (spD ⟨K, w⟩ a.tabs [] P__law_so.length (f__law_so n))
  | 0 => okD (k := 0) T.F__law_so sc__law_so fun A outer s H E S A0 hr => ss_bad
  | n + 1 => by
    have G__law_so := ok__law_so (P := P) (w := w) T n
    refine okD (k := 1 + 1 * n + 0) T.F__law_so sc__law_so fun A outer s H E S A0 hr => ?_
    exact (ss_cons (s_if (t_val (x_isi kit_tuple (xf 1) (by rfl) T.z_isinstance (by rfl) T.z_tuple (by decide +kernel))) (ss_cons (s_if (PW.pt (t_or (t_not (t_val (x_isi kit_tuple (xf 0) (by rfl) T.z_isinstance (by rfl) T.z_tuple (by decide +kernel)))) (t_or1 (t_cmp (o_ne hr.units) (x_callB c_len (by rfl) T.z_len (by decide +kernel) (xa_cons (xf 0) xa_nil)) (x_callB c_len (by rfl) T.z_len (by decide +kernel) (xa_cons (xf 1) xa_nil)))))) (ss_cons (sret x_bl)
      ss_nil) ss_nil)
      (ss_cons (s_for PassesOwn.never rfl (w_range1 (by rfl) T.z_range (xa_cons (x_callB c_len (by rfl) T.z_len (by decide +kernel) (xa_cons (xf 1) xa_nil)) xa_nil)) (fun _ => (gn 2 sc__law_so.nd)) (fun _ => (ss_cons (s_if (t_not (t_val (x_call (ts := [none, none]) G__law_so (hr.mono (by omega)) (by rfl) T.m__law_so T.k__law_so T.b__law_so (xc_plain (x_ix (o_ix (hu_of hr)) (xf 0) (xf 2) (fun _ _ => rfl)) (xc_plain (x_ix (o_ix (hu_of hr)) (xf 1) (xf 2) (fun _ _ => rfl)) xc_nil))))) (ss_cons (sret x_bl)
      ss_nil) ss_nil)
      ss_nil)))
      (ss_cons (sret x_bl)
      ss_nil))) ss_nil)
      (ss_cons (s_if (PW.pt (t_or (t_val (x_isi kit_bool (xf 1) (by rfl) T.z_isinstance (by rfl) T.z_bool (by decide +kernel))) (t_or1 (t_val (x_isi kit_bool (xf 0) (by rfl) T.z_isinstance (by rfl) T.z_bool (by decide +kernel)))))) (ss_cons (sret (x_and (x_isi kit_bool (xf 1) (by rfl) T.z_isinstance (by rfl) T.z_bool (by decide +kernel)) (x_and (x_isi kit_bool (xf 0) (by rfl) T.z_isinstance (by rfl) T.z_bool (by decide +kernel)) (x_one (x_cmp (o_eq hr.units) (xf 0) (xf 1))))))
      ss_nil) ss_nil)
      (ss_cons (s_if (t_val (x_isi kit_int (xf 1) (by rfl) T.z_isinstance (by rfl) T.z_int (by decide +kernel))) (ss_cons (sret (x_and (x_isi kit_int (xf 0) (by rfl) T.z_isinstance (by rfl) T.z_int (by decide +kernel)) (x_one (x_cmp (o_eq hr.units) (xf 0) (xf 1)))))
      ss_nil) ss_nil)
      (ss_cons (sret (x_and (x_isi kit_str (xf 0) (by rfl) T.z_isinstance (by rfl) T.z_str (by decide +kernel)) (x_one (x_cmp (o_eq hr.units) (xf 0) (xf 1)))))
      ss_nil))))
def m__law_names : MS :=
  (mSeq (mAsg (mApp gLstD (mCons (mC (.str "x")) (mCons (mC (.str "y")) (mCons (mC (.str "z")) (mCons (mC (.str "a")) (mCons (mC (.str "b")) (mCons (mC (.str "x1")) (mCons (mC (.str "x10")) (mCons (mC (.str "x2")) (mCons (mC (.str "0")) (mCons (mC (.str "9")) (mCons (mC (.str ".")) (mCons (mC (.str "a.b")) (mCons (mC (.str "z.")) (mCons (mC (.str "m")) (mCons (mC (.str "n")) (mCons (mC (.str "k.0")) (mCons (mC (.str "w")) (mCons (mC (.str "v")) (mCons (mC (.str "u")) (mCons (mC (.str "q")) mNil))))))))))))))))))))) (gSet 1))
  (mSeq (mAsg (mBin gAdd (mFrz 1) (mApp gLstD (mCons (mC (.str "p")) (mCons (mC (.str "r")) (mCons (mC (.str "s")) (mCons (mC (.str "t")) (mCons (mC (.str "c")) (mCons (mC (.str "d")) (mCons (mC (.str "e")) (mCons (mC (.str "f")) (mCons (mC (.str "abcdefghijklmnopqrstuvwx")) (mCons (mC (.str "g")) mNil)))))))))))) (gSet 1))
  (mSeq (mAsg (mCall f__law_draw [some 0, none] (mConsIo 0 (mCons (mC (.int 30)) mNil))) (gSet 2))
  (mSeq (mAsg (mBin gAdd (mSl (mFrz 1) (mP (mFrz 2)) mNoP) (mSl (mFrz 1) mNoP (mP (mFrz 2)))) (gSet 1))
  (mSeq (mRet (mBin gIx (mApp gLstD (mCons (mFrz 1) (mCons (mUn gRevL (mFrz 1)) mNil))) (mCall f__law_draw [some 0, none] (mConsIo 0 (mCons (mC (.int 2)) mNil)))))
  mNext)))))
def f__law_names : List D → Option (D × List D) := runD N__law_names.length [0] m__law_names
theorem ok__law_names {P : Program} {w : World} {K : PySem.W.Frag} {mg : Str → Option Value} {base : Heap} {a : Ad} {d : Fd} (T : Txt w K mg base a d) : FnOk P w K mg base CX0 2 a.a__law_names d.d__law_names P__law_names (spD ⟨K, w⟩ a.tabs [0] P__law_names.length f__law_names) := by
  have G__law_draw := ok__law_draw (P := P) (w := w) T
  refine okD (k := 1) T.F__law_names sc__law_names fun A outer s H E S A0 hr => ?_
  exact (ss_cons (s_asg (x_lst (pe_lst (xa_cons x_str (xa_cons x_str (xa_cons x_str (xa_cons x_str (xa_cons x_str (xa_cons x_str (xa_cons x_str (xa_cons x_str (xa_cons x_str (xa_cons x_str (xa_cons x_str (xa_cons x_str (xa_cons x_str (xa_cons x_str (xa_cons x_str (xa_cons x_str (xa_cons x_str (xa_cons x_str (xa_cons x_str (xa_cons x_str xa_nil)))))))))))))))))))))) (gn 1 sc__law_names.nd))
      (ss_cons (s_asg (x_bin o_add (xf 1) (x_lst (pe_lst (xa_cons x_str (xa_cons x_str (xa_cons x_str (xa_cons x_str (xa_cons x_str (xa_cons x_str (xa_cons x_str (xa_cons x_str (xa_cons x_str (xa_cons x_str xa_nil))))))))))))) (gn 1 sc__law_names.nd))
      (ss_cons (s_asg (x_call (ts := [some 0, none]) G__law_draw (hr.mono (by decide)) (by rfl) T.m__law_draw T.k__law_draw T.b__law_draw (xcio 0 (xc_plain x_int xc_nil))) (gn 2 sc__law_names.nd))
      (ss_cons (s_asg (x_bin o_add (x_slice (xf 1) (xo_some (xf 2)) xo_none) (x_slice (xf 1) xo_none (xo_some (xf 2)))) (gn 1 sc__law_names.nd))
      (ss_cons (sret (x_ix (o_ix (hu_of hr)) (x_lst (pe_lst (xa_cons (xf 1) (xa_cons (x_new (x_revL (xf 1))) xa_nil)))) (x_call (ts := [some 0, none]) G__law_draw (hr.mono (by decide)) (by rfl) T.m__law_draw T.k__law_draw T.b__law_draw (xcio 0 (xc_plain x_int xc_nil))) (fun _ _ => rfl)))
      ss_nil)))))
def m__law_domain : MS :=
  (mSeq (mAsg (mBin gAdd (mC (.int 1)) (mCall f__law_draw [some 0, none] (mConsIo 0 (mCons (mFrz 1) mNil)))) (gSet 2))
  (mSeq (mAsg (mIf (mB (mBin gLt (mFrz 2) (mC (.int 5)))) (mBin gIx (mApp gLstD (mCons (mC (.int 1)) (mCons (mC (.int 1)) (mCons (mC (.int 1)) (mCons (mC (.int 13)) mNil))))) (mCall f__law_draw [some 0, none] (mConsIo 0 (mCons (mC (.int 4)) mNil)))) (mC (.int 1))) (gSet 3))
  (mSeq (mAsg (mBin gSub (mCall f__law_draw [some 0, none] (mConsIo 0 (mCons (mC (.int 6)) mNil))) (mC (.int 3))) (gSet 4))
  (mSeq (mIfS (mB (mBin gEq (mCall f__law_draw [some 0, none] (mConsIo 0 (mCons (mC (.int 12)) mNil))) (mC (.int 0)))) (mSeq (mRet (mBin gIx (mApp gLstD (mCons (mApp gTupD (mCons (mUn gNeg (mC (.int 200))) (mCons (mC (.int 200)) mNil))) (mCons (mApp gTupD (mCons (mUn gNeg (mC (.int 200))) mNil)) (mCons (mApp gTupD (mCons (mC (.int 0)) (mCons (mC (.int 200)) mNil))) mNil)))) (mCall f__law_draw [some 0, none] (mConsIo 0 (mCons (mC (.int 3)) mNil)))))
  mNext) mNext)
  (mSeq (mAsg (mApp gTupD mNil) (gSet 5))
  (mSeq (mFor (mRange gRange1 (mCons (mFrz 2) mNil)) (gSet 6) (mSeq (mAsg (mBin gAdd (mFrz 5) (mApp gTupD (mCons (mBin gMul (mFrz 4) (mFrz 3)) mNil))) (gSet 5))
  (mSeq (mAsg (mBin gAdd (mFrz 4) (mBin gIx (mApp gLstD (mCons (mC (.int 1)) (mCons (mC (.int 1)) (mCons (mC (.int 1)) (mCons (mC (.int 2)) (mCons (mC (.int 3)) mNil)))))) (mCall f__law_draw [some 0, none] (mConsIo 0 (mCons (mC (.int 5)) mNil))))) (gSet 4))
  mNext)))
  (mSeq (mRet (mFrz 5))
  mNext)))))))
def f__law_domain : List D → Option (D × List D) := runD N__law_domain.length [0] m__law_domain
theorem ok__law_domain {P : Program} {w : World} {K : PySem.W.Frag} {mg : Str → Option Value} {base : Heap} {a : Ad} {d : Fd} (T : Txt w K mg base a d) : FnOk P w K mg base CX0 2 a.a__law_domain d.d__law_domain P__law_domain (spD ⟨K, w⟩ a.tabs [0] P__law_domain.length f__law_domain) := by
  have G__law_draw := ok__law_draw (P := P) (w := w) T
  refine okD (k := 1) T.F__law_domain sc__law_domain fun A outer s H E S A0 hr => ?_
  exact (ss_cons (s_asg (x_bin o_add x_int (x_call (ts := [some 0, none]) G__law_draw (hr.mono (by decide)) (by rfl) T.m__law_draw T.k__law_draw T.b__law_draw (xcio 0 (xc_plain (xf 1) xc_nil)))) (gn 2 sc__law_domain.nd))
      (ss_cons (s_asg (x_if (t_cmp o_lt (xf 2) x_int) (x_ix (o_ix (hu_of hr)) (x_lst (pe_lst (xa_cons x_int (xa_cons x_int (xa_cons x_int (xa_cons x_int xa_nil)))))) (x_call (ts := [some 0, none]) G__law_draw (hr.mono (by decide)) (by rfl) T.m__law_draw T.k__law_draw T.b__law_draw (xcio 0 (xc_plain x_int xc_nil))) (fun _ _ => rfl)) x_int) (gn 3 sc__law_domain.nd))
      (ss_cons (s_asg (x_bin o_sub (x_call (ts := [some 0, none]) G__law_draw (hr.mono (by decide)) (by rfl) T.m__law_draw T.k__law_draw T.b__law_draw (xcio 0 (xc_plain x_int xc_nil))) x_int) (gn 4 sc__law_domain.nd))
      (ss_cons (s_if (t_cmp (o_eq hr.units) (x_call (ts := [some 0, none]) G__law_draw (hr.mono (by decide)) (by rfl) T.m__law_draw T.k__law_draw T.b__law_draw (xcio 0 (xc_plain x_int xc_nil))) x_int) (ss_cons (sret (x_ix (o_ix (hu_of hr)) (x_lst (pe_lst (xa_cons (x_tup (FrzT.pe_tupF (xa_cons (x_neg x_int) (xa_cons x_int xa_nil)))) (xa_cons (x_tup (FrzT.pe_tupF (xa_cons (x_neg x_int) xa_nil))) (xa_cons (x_tup (FrzT.pe_tupF (xa_cons x_int (xa_cons x_int xa_nil)))) xa_nil))))) (x_call (ts := [some 0, none]) G__law_draw (hr.mono (by decide)) (by rfl) T.m__law_draw T.k__law_draw T.b__law_draw (xcio 0 (xc_plain x_int xc_nil))) (fun _ _ => rfl)))
      ss_nil) ss_nil)
      (ss_cons (s_asg (x_tup (FrzT.pe_tupF xa_nil)) (gn 5 sc__law_domain.nd))
      (ss_cons (s_for PassesOwn.never rfl (w_range1 (by rfl) T.z_range (xa_cons (xf 2) xa_nil)) (fun _ => (gn 6 sc__law_domain.nd)) (fun _ => (ss_cons (s_asg (x_bin o_add (xf 5) (x_tup (FrzT.pe_tupF (xa_cons (x_bin o_mul (xf 4) (xf 3)) xa_nil)))) (gn 5 sc__law_domain.nd))
      (ss_cons (s_asg (x_bin o_add (xf 4) (x_ix (o_ix (hu_of hr)) (x_lst (pe_lst (xa_cons x_int (xa_cons x_int (xa_cons x_int (xa_cons x_int (xa_cons x_int xa_nil))))))) (x_call (ts := [some 0, none]) G__law_draw (hr.mono (by decide)) (by rfl) T.m__law_draw T.k__law_draw T.b__law_draw (xcio 0 (xc_plain x_int xc_nil))) (fun _ _ => rfl))) (gn 4 sc__law_domain.nd))
      ss_nil))))
      (ss_cons (sret (xf 5))
      ss_nil)))))))
def m__law_unknowns : MS :=
  (mSeq (mRet (mApp gTupOf (mCons (mLc (mRange gRange1 (mCons (mFrz 2) mNil)) (gSet 4) mYes (mApp gTupD (mCons (mBin gIx (mFrz 1) (mFrz 4)) (mCons (mCall f__law_domain [some 0, none] (mConsIo 0 (mCons (mFrz 3) mNil))) mNil))) [4]) mNil)))
  mNext)
def f__law_unknowns : List D → Option (D × List D) := runD N__law_unknowns.length [0] m__law_unknowns
theorem ok__law_unknowns {P : Program} {w : World} {K : PySem.W.Frag} {mg : Str → Option Value} {base : Heap} {a : Ad} {d : Fd} (T : Txt w K mg base a d) : FnOk P w K mg base CX0 3 a.a__law_unknowns d.d__law_unknowns P__law_unknowns (spD ⟨K, w⟩ a.tabs [0] P__law_unknowns.length f__law_unknowns) := by
  have G__law_domain := ok__law_domain (P := P) (w := w) T
  refine okD (k := 2) T.F__law_unknowns sc__law_unknowns fun A outer s H E S A0 hr => ?_
  exact (ss_cons (sret (x_callTy c_tuple (by rfl) T.z_tuple (by decide +kernel) (xa_cons (x_new (x_lc (own := [("k", 4)]) rfl sc__law_unknowns.nd (w_range1 (by rfl) T.z_range (xa_cons (xf 2) xa_nil)) (blkOk_by (own := [("k", 4)]) (N := N__law_unknowns) (sc := defScope s__law_unknowns) (by decide +kernel)) (fun _ _ _ _ _ _ => (gnW 4 sc__law_unknowns.nd)) (fun _ _ _ _ _ _ => ts_nil) (fun _ _ _ _ _ _ => (x_tup (FrzT.pe_tupF (xa_cons (x_ix (o_ix (hu_of hr)) (xf 1) (xf 4) (fun _ _ => rfl)) (xa_cons (x_call (ts := [some 0, none]) G__law_domain (hr.mono (by decide)) (by rfl) T.m__law_domain T.k__law_domain T.b__law_domain (xcio 0 (xc_plain (xf 3) xc_nil))) xa_nil))))) (hv := nios rfl))) xa_nil)))
      ss_nil)
def m__law_taken : MS :=
  (mSeq (mAsg (mApp gListOf2 (mCons (mFrz 1) mNil)) (gOwn 3))
  (mSeq (mAsg (mApp gTupD mNil) (gSet 4))
  (mSeq (mFor (mRange gRange1 (mCons (mFrz 2) mNil)) (gSet 5) (mSeq (mAsg (mBin gAdd (mFrz 4) (mApp gTupD (mCons (mMut 3 gPopAt (mCall f__law_draw [some 0, none] (mConsIo 0 (mCons (mApp gLen (mCons (mVar 3) mNil)) mNil)))) mNil))) (gSet 4))
  mNext))
  (mSeq (mRet (mFrz 4))
  mNext))))
def f__law_taken : List D → Option (D × List D) := runD N__law_taken.length [0] m__law_taken
theorem ok__law_taken {P : Program} {w : World} {K : PySem.W.Frag} {mg : Str → Option Value} {base : Heap} {a : Ad} {d : Fd} (T : Txt w K mg base a d) : FnOk P w K mg base CX0 2 a.a__law_taken d.d__law_taken P__law_taken (spD ⟨K, w⟩ a.tabs [0] P__law_taken.length f__law_taken) := by
  have G__law_draw := ok__law_draw (P := P) (w := w) T
  refine okD (k := 1) T.F__law_taken sc__law_taken fun A outer s H E S A0 hr => ?_
  exact (ss_cons (sown 3 sc__law_taken.nd (x_callTyN (c_listN2 rfl) (by rfl) T.z_list (by decide +kernel) (xa_cons (xf 1) xa_nil)))
      (ss_cons (s_asg (x_tup (FrzT.pe_tupF xa_nil)) (gn 4 sc__law_taken.nd))
      (ss_cons (s_for PassesOwn.never rfl (w_range1 (by rfl) T.z_range (xa_cons (xf 2) xa_nil)) (fun _ => (gn 5 sc__law_taken.nd)) (fun _ => (ss_cons (s_asg (x_bin o_add (xf 4) (x_tup (FrzT.pe_tupF (xa_cons (x_popAt (i := 3) rfl (by first | exact Or.inl rfl | exact Or.inr (Or.inl rfl) | exact Or.inr (Or.inr rfl)) (x_call (ts := [some 0, none]) G__law_draw (hr.mono (by decide)) (by rfl) T.m__law_draw T.k__law_draw T.b__law_draw (xcio 0 (xc_plain (x_callB c_len (by rfl) T.z_len (by decide +kernel) (xa_cons (xv 3) xa_nil)) xc_nil)))) xa_nil)))) (gn 4 sc__law_taken.nd))
      ss_nil)))
      (ss_cons (sret (xf 4))
      ss_nil))))
def m__law_value : MS :=
  (mSeq (mIfS (mB (mBin gGt (mCall f__law_draw [some 0, none] (mConsIo 0 (mCons (mC (.int 5)) mNil))) (mC (.int 0)))) (mSeq (mRet (mBin gIx (mFrz 1) (mCall f__law_draw [some 0, none] (mConsIo 0 (mCons (mApp gLen (mCons (mFrz 1) mNil)) mNil)))))
  mNext) mNext)
  (mSeq (mRet (mBin gSub (mCall f__law_draw [some 0, none] (mConsIo 0 (mCons (mC (.int 11)) mNil))) (mC (.int 5))))
  mNext))
def f__law_value : List D → Option (D × List D) := runD N__law_value.length [0] m__law_value
theorem ok__law_value {P : Program} {w : World} {K : PySem.W.Frag} {mg : Str → Option Value} {base : Heap} {a : Ad} {d : Fd} (T : Txt w K mg base a d) : FnOk P w K mg base CX0 2 a.a__law_value d.d__law_value P__law_value (spD ⟨K, w⟩ a.tabs [0] P__law_value.length f__law_value) := by
  have G__law_draw := ok__law_draw (P := P) (w := w) T
  refine okD (k := 1) T.F__law_value sc__law_value fun A outer s H E S A0 hr => ?_
  exact (ss_cons (s_if (t_cmp o_gt (x_call (ts := [some 0, none]) G__law_draw (hr.mono (by decide)) (by rfl) T.m__law_draw T.k__law_draw T.b__law_draw (xcio 0 (xc_plain x_int xc_nil))) x_int) (ss_cons (sret (x_ix (o_ix (hu_of hr)) (xf 1) (x_call (ts := [some 0, none]) G__law_draw (hr.mono (by decide)) (by rfl) T.m__law_draw T.k__law_draw T.b__law_draw (xcio 0 (xc_plain (x_callB c_len (by rfl) T.z_len (by decide +kernel) (xa_cons (xf 1) xa_nil)) xc_nil))) (fun _ _ => rfl)))
      ss_nil) ss_nil)
      (ss_cons (sret (x_bin o_sub (x_call (ts := [some 0, none]) G__law_draw (hr.mono (by decide)) (by rfl) T.m__law_draw T.k__law_draw T.b__law_draw (xcio 0 (xc_plain x_int xc_nil))) x_int))
      ss_nil))
def m__law_model : MS :=
  (mSeq (mAsg (mApp gLstD mNil) (gOwn 6))
  (mSeq (mFor (mRange gRange1 (mCons (mFrz 5) mNil)) (gSet 7) (mSeq (mAsg (mBin gIx (mBin gIx (mFrz 1) (mCall f__law_draw [some 0, none] (mConsIo 0 (mCons (mApp gLen (mCons (mFrz 1) mNil)) mNil)))) (mC (.int 0))) (gSet 8))
  (mSeq (mAsg (mBin gIx (mApp gLstD (mCons (mApp gTupD (mCons (mC (.str "least")) (mCons (mApp gTupD (mCons (mApp gTupD (mCons (mFrz 8) (mCons (mC (.int 2)) mNil))) mNil)) (mCons (mUn gNeg (mC (.int 9))) mNil)))) (mCons (mApp gTupD (mCons (mC (.str "unlike")) (mCons (mApp gTupD (mCons (mFrz 8) mNil)) mNil))) (mCons (mApp gTupD (mCons (mC (.str "table")) (mCons (mApp gTupD (mCons (mFrz 8) mNil)) (mCons (mApp gTupD (mCons (mApp gTupD (mCons (mC (.int 1)) mNil)) (mCons (mApp gTupD (mCons (mC (.int 4)) mNil)) mNil))) mNil)))) (mCons (mApp gTupD (mCons (mC (.str "bar")) (mCons (mApp gTupD (mCons (mFrz 8) mNil)) (mCons (mApp gTupD (mCons (mApp gTupD (mCons (mC (.int 7)) mNil)) mNil)) mNil)))) mNil))))) (mBin gSub (mBin gDiv (mFrz 7) (mC (.int 2))) (mBin gMul (mBin gDiv (mFrz 7) (mC (.int 8))) (mC (.int 4))))) (gSet 9))
  (mSeq (mDrop (mMut 6 gApp (mApp gTupD (mCons (mBin gAdd (mC (.str "no.")) (mApp gStr (mCons (mFrz 7) mNil))) (mCons (mFrz 9) mNil)))))
  mNext))))
  (mSeq (mAsg (mCall f__law_draw [some 0, none] (mConsIo 0 (mCons (mBin gAdd (mFrz 5) (mC (.int 1))) mNil))) (gSet 10))
  (mSeq (mIfS (mB (mBin gEq (mFrz 4) (mC (.int 0)))) (mSeq (mRet (mApp gTupD (mCons (mFrz 1) (mCons (mApp gTupOf (mCons (mBin gAdd (mBin gAdd (mSl (mVar 6) mNoP (mP (mFrz 10))) (mApp gLstD (mCons (mApp gTupD (mCons (mFrz 2) (mCons (mFrz 3) mNil))) mNil))) (mSl (mVar 6) (mP (mFrz 10)) mNoP)) mNil)) (mCons (mApp gTupD (mCons (mApp gTupD (mCons (mC (.str "so.0")) (mCons (mApp gTupD (mCons (mC (.str "unlike")) (mCons (mApp gTupD (mCons (mBin gIx (mBin gIx (mFrz 1) (mC (.int 0))) (mC (.int 0))) mNil)) mNil))) (mCons (mC (.int 3)) mNil)))) mNil)) mNil)))))
  mNext) mNext)
  (mSeq (mRet (mApp gTupD (mCons (mFrz 1) (mCons (mApp gTupOf (mCons (mVar 6) mNil)) (mCons (mApp gTupD (mCons (mApp gTupD (mCons (mC (.str "so.0")) (mCons (mApp gTupD (mCons (mC (.str "unlike")) (mCons (mApp gTupD (mCons (mBin gIx (mBin gIx (mFrz 1) (mC (.int 0))) (mC (.int 0))) mNil)) mNil))) (mCons (mC (.int 3)) mNil)))) (mCons (mApp gTupD (mCons (mFrz 2) (mCons (mFrz 3) (mCons (mFrz 4) mNil)))) mNil))) mNil)))))
  mNext)))))
def f__law_model : List D → Option (D × List D) := runD N__law_model.length [0] m__law_model
theorem ok__law_model {P : Program} {w : World} {K : PySem.W.Frag} {mg : Str → Option Value} {base : Heap} {a : Ad} {d : Fd} (T : Txt w K mg base a d) : FnOk P w K mg base CX0 2 a.a__law_model d.d__law_model P__law_model (spD ⟨K, w⟩ a.tabs [0] P__law_model.length f__law_model) := by
  have G__law_draw := ok__law_draw (P := P) (w := w) T
  refine okD (k := 1) T.F__law_model sc__law_model fun A outer s H E S A0 hr => ?_
  exact (ss_cons (sown 6 sc__law_model.nd (x_lstN (pe_lst xa_nil)))
      (ss_cons (s_for PassesOwn.never rfl (w_range1 (by rfl) T.z_range (xa_cons (xf 5) xa_nil)) (fun _ => (gn 7 sc__law_model.nd)) (fun _ => (ss_cons (s_asg (x_ix (o_ix (hu_of hr)) (x_ix (o_ix (hu_of hr)) (xf 1) (x_call (ts := [some 0, none]) G__law_draw (hr.mono (by decide)) (by rfl) T.m__law_draw T.k__law_draw T.b__law_draw (xcio 0 (xc_plain (x_callB c_len (by rfl) T.z_len (by decide +kernel) (xa_cons (xf 1) xa_nil)) xc_nil))) (fun _ _ => rfl)) x_int (fun _ _ => rfl)) (gn 8 sc__law_model.nd))
      (ss_cons (s_asg (x_ix (o_ix (hu_of hr)) (x_lst (pe_lst (xa_cons (x_tup (FrzT.pe_tupF (xa_cons x_str (xa_cons (x_tup (FrzT.pe_tupF (xa_cons (x_tup (FrzT.pe_tupF (xa_cons (xf 8) (xa_cons x_int xa_nil)))) xa_nil))) (xa_cons (x_neg x_int) xa_nil))))) (xa_cons (x_tup (FrzT.pe_tupF (xa_cons x_str (xa_cons (x_tup (FrzT.pe_tupF (xa_cons (xf 8) xa_nil))) xa_nil)))) (xa_cons (x_tup (FrzT.pe_tupF (xa_cons x_str (xa_cons (x_tup (FrzT.pe_tupF (xa_cons (xf 8) xa_nil))) (xa_cons (x_tup (FrzT.pe_tupF (xa_cons (x_tup (FrzT.pe_tupF (xa_cons x_int xa_nil))) (xa_cons (x_tup (FrzT.pe_tupF (xa_cons x_int xa_nil))) xa_nil)))) xa_nil))))) (xa_cons (x_tup (FrzT.pe_tupF (xa_cons x_str (xa_cons (x_tup (FrzT.pe_tupF (xa_cons (xf 8) xa_nil))) (xa_cons (x_tup (FrzT.pe_tupF (xa_cons (x_tup (FrzT.pe_tupF (xa_cons x_int xa_nil))) xa_nil))) xa_nil))))) xa_nil)))))) (x_bin o_sub (x_bin o_div (xf 7) x_int) (x_bin o_mul (x_bin o_div (xf 7) x_int) x_int)) (fun _ _ => rfl)) (gn 9 sc__law_model.nd))
      (ss_cons (s_expr (x_append (i := 6) rfl (by first | exact Or.inl rfl | exact Or.inr (Or.inl rfl) | exact Or.inr (Or.inr rfl)) (x_tup (FrzT.pe_tupF (xa_cons (x_bin o_add x_str (x_callTy c_str (by rfl) T.z_str (by decide +kernel) (xa_cons (xf 7) xa_nil))) (xa_cons (xf 9) xa_nil))))))
      ss_nil)))))
      (ss_cons (s_asg (x_call (ts := [some 0, none]) G__law_draw (hr.mono (by decide)) (by rfl) T.m__law_draw T.k__law_draw T.b__law_draw (xcio 0 (xc_plain (x_bin o_add (xf 5) x_int) xc_nil))) (gn 10 sc__law_model.nd))
      (ss_cons (s_if (t_cmp (o_eq hr.units) (xf 4) x_int) (ss_cons (sret (x_tup (FrzT.pe_tupF (xa_cons (xf 1) (xa_cons (x_callTy c_tuple (by rfl) T.z_tuple (by decide +kernel) (xa_cons (x_bin o_add (x_bin o_add (x_slice (xv 6) xo_none (xo_some (xf 10))) (x_lst (pe_lst (xa_cons (x_tup (FrzT.pe_tupF (xa_cons (xf 2) (xa_cons (xf 3) xa_nil)))) xa_nil)))) (x_slice (xv 6) (xo_some (xf 10)) xo_none)) xa_nil)) (xa_cons (x_tup (FrzT.pe_tupF (xa_cons (x_tup (FrzT.pe_tupF (xa_cons x_str (xa_cons (x_tup (FrzT.pe_tupF (xa_cons x_str (xa_cons (x_tup (FrzT.pe_tupF (xa_cons (x_ix (o_ix (hu_of hr)) (x_ix (o_ix (hu_of hr)) (xf 1) x_int (fun _ _ => rfl)) x_int (fun _ _ => rfl)) xa_nil))) xa_nil)))) (xa_cons x_int xa_nil))))) xa_nil))) xa_nil))))))
      ss_nil) ss_nil)
      (ss_cons (sret (x_tup (FrzT.pe_tupF (xa_cons (xf 1) (xa_cons (x_callTy c_tuple (by rfl) T.z_tuple (by decide +kernel) (xa_cons (xv 6) xa_nil)) (xa_cons (x_tup (FrzT.pe_tupF (xa_cons (x_tup (FrzT.pe_tupF (xa_cons x_str (xa_cons (x_tup (FrzT.pe_tupF (xa_cons x_str (xa_cons (x_tup (FrzT.pe_tupF (xa_cons (x_ix (o_ix (hu_of hr)) (x_ix (o_ix (hu_of hr)) (xf 1) x_int (fun _ _ => rfl)) x_int (fun _ _ => rfl)) xa_nil))) xa_nil)))) (xa_cons x_int xa_nil))))) (xa_cons (x_tup (FrzT.pe_tupF (xa_cons (xf 2) (xa_cons (xf 3) (xa_cons (xf 4) xa_nil))))) xa_nil)))) xa_nil))))))
      ss_nil)))))
def m__law_norm : MS :=
  (mSeq (mAsg (mC (.dict [])) (gOwn 2))
  (mSeq (mFor (mItems2 (mFrz 0)) (gTupT 2 (gsCons (gSet 3) (gsCons (gSet 4) gsNil))) (mSeq (mPutT 2 (mBin gIx (mFrz 3) (mC (.int 0))) (mBin gAdd (mGet2T (mVar 2) (mBin gIx (mFrz 3) (mC (.int 0))) (mC (.int 0))) (mBin gIx (mApp gLstD (mCons (mUn gNeg (mFrz 4)) (mCons (mFrz 4) mNil))) (mApp gInt (mCons (mBin gIx (mFrz 3) (mC (.int 1))) mNil)))))
  (mSeq (mAsg (mBin gSub (mFrz 1) (mBin gIx (mApp gLstD (mCons (mFrz 4) (mCons (mC (.int 0)) mNil))) (mApp gInt (mCons (mBin gIx (mFrz 3) (mC (.int 1))) mNil)))) (gSet 1))
  mNext)))
  (mSeq (mAsg (mApp gLstD mNil) (gOwn 5))
  (mSeq (mFor (mItems2 (mFrz 2)) (gSet 6) (mSeq (mIfS (mB (mBin gGt (mBin gIxT (mVar 2) (mFrz 6)) (mC (.int 0)))) (mSeq (mDrop (mMut 5 gApp (mApp gTupD (mCons (mApp gTupD (mCons (mFrz 6) (mCons (mC (.bool true)) mNil))) (mCons (mBin gIxT (mVar 2) (mFrz 6)) mNil)))))
  mNext) mNext)
  (mSeq (mIfS (mB (mBin gLt (mBin gIxT (mVar 2) (mFrz 6)) (mC (.int 0)))) (mSeq (mDrop (mMut 5 gApp (mApp gTupD (mCons (mApp gTupD (mCons (mFrz 6) (mCons (mC (.bool false)) mNil))) (mCons (mUn gNeg (mBin gIxT (mVar 2) (mFrz 6))) mNil)))))
  (mSeq (mAsg (mBin gSub (mFrz 1) (mBin gIxT (mVar 2) (mFrz 6))) (gSet 1))
  mNext)) mNext)
  mNext)))
  (mSeq (mRet (mApp gTupD (mCons (mApp gTupOf (mCons (mApp gSorted4 (mCons (mVar 5) mNil)) mNil)) (mCons (mApp gMax2 (mCons (mC (.int 0)) (mCons (mFrz 1) mNil))) mNil))))
  mNext)))))
def f__law_norm : List D → Option (D × List D) := runD N__law_norm.length [] m__law_norm
theorem ok__law_norm {P : Program} {w : World} {K : PySem.W.Frag} {mg : Str → Option Value} {base : Heap} {a : Ad} {d : Fd} (T : Txt w K mg base a d) : FnOk P w K mg base CX0 1 a.a__law_norm d.d__law_norm P__law_norm (spD ⟨K, w⟩ a.tabs [] P__law_norm.length f__law_norm) := by
  refine okD (k := 0) T.F__law_norm sc__law_norm fun A outer s H E S A0 hr => ?_
  exact (ss_cons (sown 2 sc__law_norm.nd x_dicN)
      (ss_cons (s_for PassesOwn.never rfl (w_seq2 (xf 0)) (fun _ => (g_tup rfl (gs_cons (gn 3 sc__law_norm.nd) (gs_cons (gn 4 sc__law_norm.nd) gs_nil gSet_keep) gSet_keep))) (fun _ => (ss_cons (sputT 2 (hu_of hr) (x_ix (o_ix (hu_of hr)) (xf 3) x_int (fun _ _ => rfl)) (x_bin o_add (x_get2T (hu_of hr) (xv 2) (x_ix (o_ix (hu_of hr)) (xf 3) x_int (fun _ _ => rfl)) x_int) (x_ix (o_ix (hu_of hr)) (x_lst (pe_lst (xa_cons (x_neg (xf 4)) (xa_cons (xf 4) xa_nil)))) (x_callTy c_int (by rfl) T.z_int (by decide +kernel) (xa_cons (x_ix (o_ix (hu_of hr)) (xf 3) x_int (fun _ _ => rfl)) xa_nil)) (fun _ _ => rfl))))
      (ss_cons (s_asg (x_bin o_sub (xf 1) (x_ix (o_ix (hu_of hr)) (x_lst (pe_lst (xa_cons (xf 4) (xa_cons x_int xa_nil)))) (x_callTy c_int (by rfl) T.z_int (by decide +kernel) (xa_cons (x_ix (o_ix (hu_of hr)) (xf 3) x_int (fun _ _ => rfl)) xa_nil)) (fun _ _ => rfl))) (gn 1 sc__law_norm.nd))
      ss_nil))))
      (ss_cons (sown 5 sc__law_norm.nd (x_lstN (pe_lst xa_nil)))
      (ss_cons (s_for PassesOwn.never rfl (w_seq2 (xf 2)) (fun _ => (gn 6 sc__law_norm.nd)) (fun _ => (ss_cons (s_if (t_cmp o_gt (x_ix (o_ixT (hu_of hr)) (xv 2) (xf 6) (fun _ _ => rfl)) x_int) (ss_cons (s_expr (x_append (i := 5) rfl (by first | exact Or.inl rfl | exact Or.inr (Or.inl rfl) | exact Or.inr (Or.inr rfl)) (x_tup (FrzT.pe_tupF (xa_cons (x_tup (FrzT.pe_tupF (xa_cons (xf 6) (xa_cons x_bl xa_nil)))) (xa_cons (x_ix (o_ixT (hu_of hr)) (xv 2) (xf 6) (fun _ _ => rfl)) xa_nil))))))
      ss_nil) ss_nil)
      (ss_cons (s_if (t_cmp o_lt (x_ix (o_ixT (hu_of hr)) (xv 2) (xf 6) (fun _ _ => rfl)) x_int) (ss_cons (s_expr (x_append (i := 5) rfl (by first | exact Or.inl rfl | exact Or.inr (Or.inl rfl) | exact Or.inr (Or.inr rfl)) (x_tup (FrzT.pe_tupF (xa_cons (x_tup (FrzT.pe_tupF (xa_cons (xf 6) (xa_cons x_bl xa_nil)))) (xa_cons (x_neg (x_ix (o_ixT (hu_of hr)) (xv 2) (xf 6) (fun _ _ => rfl))) xa_nil))))))
      (ss_cons (s_asg (x_bin o_sub (xf 1) (x_ix (o_ixT (hu_of hr)) (xv 2) (xf 6) (fun _ _ => rfl))) (gn 1 sc__law_norm.nd))
      ss_nil)) ss_nil)
      ss_nil))))
      (ss_cons (sret (x_tup (FrzT.pe_tupF (xa_cons (x_callTy c_tuple (by rfl) T.z_tuple (by decide +kernel) (xa_cons (x_callB (c_sorted4 rfl (hu65 hr)) (by rfl) T.z_sorted (by decide +kernel) (xa_cons (xv 5) xa_nil)) xa_nil)) (xa_cons (x_callB (c_max2 rfl) (by rfl) T.z_max (by decide +kernel) (xa_cons x_int (xa_cons (xf 1) xa_nil))) xa_nil)))))
      ss_nil)))))
def m__law_at_most : MS :=
  (mSeq (mRet (mCall f__law_norm [none, none] (mCons (mLc (mItems2 (mFrz 0)) (gSet 2) mYes (mApp gTupD (mCons (mApp gTupD (mCons (mFrz 2) (mCons (mC (.bool true)) mNil))) (mCons (mUn gNeg (mC (.int 1))) mNil))) [2]) (mCons (mUn gNeg (mFrz 1)) mNil))))
  mNext)
def f__law_at_most : List D → Option (D × List D) := runD N__law_at_most.length [] m__law_at_most
theorem ok__law_at_most {P : Program} {w : World} {K : PySem.W.Frag} {mg : Str → Option Value} {base : Heap} {a : Ad} {d : Fd} (T : Txt w K mg base a d) : FnOk P w K mg base CX0 2 a.a__law_at_most d.d__law_at_most P__law_at_most (spD ⟨K, w⟩ a.tabs [] P__law_at_most.length f__law_at_most) := by
  have G__law_norm := ok__law_norm (P := P) (w := w) T
  refine okD (k := 1) T.F__law_at_most sc__law_at_most fun A outer s H E S A0 hr => ?_
  exact (ss_cons (sret (x_call (ts := [none, none]) G__law_norm (hr.mono (by decide)) (by rfl) T.m__law_norm T.k__law_norm T.b__law_norm (xc_plain (x_new (x_lc (own := [("sign", 2)]) rfl sc__law_at_most.nd (w_seq2 (xf 0)) (blkOk_by (own := [("sign", 2)]) (N := N__law_at_most) (sc := defScope s__law_at_most) (by decide +kernel)) (fun _ _ _ _ _ _ => (gnW 2 sc__law_at_most.nd)) (fun _ _ _ _ _ _ => ts_nil) (fun _ _ _ _ _ _ => (x_tup (FrzT.pe_tupF (xa_cons (x_tup (FrzT.pe_tupF (xa_cons (xf 2) (xa_cons x_bl xa_nil)))) (xa_cons (x_neg x_int) xa_nil))))) (hv := nios rfl))) (xc_plain (x_neg (xf 1)) xc_nil))))
      ss_nil)
def m__law_at_least : MS :=
  (mSeq (mRet (mCall f__law_norm [none, none] (mCons (mLc (mItems2 (mFrz 0)) (gSet 2) mYes (mApp gTupD (mCons (mApp gTupD (mCons (mFrz 2) (mCons (mC (.bool true)) mNil))) (mCons (mC (.int 1)) mNil))) [2]) (mCons (mFrz 1) mNil))))
  mNext)
def f__law_at_least : List D → Option (D × List D) := runD N__law_at_least.length [] m__law_at_least
theorem ok__law_at_least {P : Program} {w : World} {K : PySem.W.Frag} {mg : Str → Option Value} {base : Heap} {a : Ad} {d : Fd} (T : Txt w K mg base a d) : FnOk P w K mg base CX0 2 a.a__law_at_least d.d__law_at_least P__law_at_least (spD ⟨K, w⟩ a.tabs [] P__law_at_least.length f__law_at_least) := by
  have G__law_norm := ok__law_norm (P := P) (w := w) T
  refine okD (k := 1) T.F__law_at_least sc__law_at_least fun A outer s H E S A0 hr => ?_
  exact (ss_cons (sret (x_call (ts := [none, none]) G__law_norm (hr.mono (by decide)) (by rfl) T.m__law_norm T.k__law_norm T.b__law_norm (xc_plain (x_new (x_lc (own := [("sign", 2)]) rfl sc__law_at_least.nd (w_seq2 (xf 0)) (blkOk_by (own := [("sign", 2)]) (N := N__law_at_least) (sc := defScope s__law_at_least) (by decide +kernel)) (fun _ _ _ _ _ _ => (gnW 2 sc__law_at_least.nd)) (fun _ _ _ _ _ _ => ts_nil) (fun _ _ _ _ _ _ => (x_tup (FrzT.pe_tupF (xa_cons (x_tup (FrzT.pe_tupF (xa_cons (xf 2) (xa_cons x_bl xa_nil)))) (xa_cons x_int xa_nil))))) (hv := nios rfl))) (xc_plain (xf 1) xc_nil))))
      ss_nil)
def m__law_from : MS :=
  (mSeq (mAsg (mLc (mItems2 (mBin gIx (mFrz 0) (mFrz 1))) (gSet 4) (mB (mBin gGe (mFrz 4) (mFrz 2))) (mFrz 4) [4]) (gSet 3))
  (mSeq (mIfS (mB (mBin gEq (mFrz 3) (mApp gLstD mNil))) (mSeq (mRet (mC (.str "never")))
  mNext) mNext)
  (mSeq (mRet (mIf (mB (mBin gEq (mBin gIx (mFrz 3) (mC (.int 0))) (mBin gIx (mBin gIx (mFrz 0) (mFrz 1)) (mC (.int 0))))) (mC (.str "always")) (mApp gTupD (mCons (mC (.str "from")) (mCons (mFrz 1) (mCons (mBin gIx (mFrz 3) (mC (.int 0))) mNil))))))
  mNext)))
def f__law_from : List D → Option (D × List D) := runD N__law_from.length [] m__law_from
theorem ok__law_from {P : Program} {w : World} {K : PySem.W.Frag} {mg : Str → Option Value} {base : Heap} {a : Ad} {d : Fd} (T : Txt w K mg base a d) : FnOk P w K mg base CX0 1 a.a__law_from d.d__law_from P__law_from (spD ⟨K, w⟩ a.tabs [] P__law_from.length f__law_from) := by
  refine okD (k := 0) T.F__law_from sc__law_from fun A outer s H E S A0 hr => ?_
  exact (ss_cons (sset_lc 3 (own := [("u", 4)]) rfl sc__law_from.nd (w_seq2 (x_ix (o_ix (hu_of hr)) (xf 0) (xf 1) (fun _ _ => rfl))) (blkOk_by (own := [("u", 4)]) (N := N__law_from) (sc := defScope s__law_from) (by decide +kernel)) (fun _ _ _ _ _ _ => (gnW 4 sc__law_from.nd)) (fun _ _ _ _ _ _ => (ts_one (t_cmp o_ge (xf 4) (xf 2)))) (fun _ _ _ _ _ _ => (xf 4)) (hv := nios rfl))
      (ss_cons (s_if (t_cmp (o_eq hr.units) (xf 3) (x_lst (pe_lst xa_nil))) (ss_cons (sret x_str)
      ss_nil) ss_nil)
      (ss_cons (sret (x_if (t_cmp (o_eq hr.units) (x_ix (o_ix (hu_of hr)) (xf 3) x_int (fun _ _ => rfl)) (x_ix (o_ix (hu_of hr)) (x_ix (o_ix (hu_of hr)) (xf 0) (xf 1) (fun _ _ => rfl)) x_int (fun _ _ => rfl))) x_str (x_tup (FrzT.pe_tupF (xa_cons x_str (xa_cons (xf 1) (xa_cons (x_ix (o_ix (hu_of hr)) (xf 3) x_int (fun _ _ => rfl)) xa_nil)))))))
      ss_nil)))
def m__law_sum_row : MS :=
  (mSeq (mAsg (mApp gLstD mNil) (gOwn 3))
  (mSeq (mFor (mItems2 (mFrz 1)) (gTupT 2 (gsCons (gSet 4) (gsCons (gSet 5) gsNil))) (mSeq (mAsg (mBin gSub (mFrz 2) (mBin gMul (mFrz 5) (mBin gIx (mBin gIx (mFrz 0) (mFrz 4)) (mC (.int 0))))) (gSet 2))
  (mSeq (mFor (mRange gRange2 (mCons (mC (.int 1)) (mCons (mApp gLen (mCons (mBin gIx (mFrz 0) (mFrz 4)) mNil)) mNil))) (gSet 6) (mSeq (mDrop (mMut 3 gApp (mApp gTupD (mCons (mApp gTupD (mCons (mApp gTupD (mCons (mC (.str "from")) (mCons (mFrz 4) (mCons (mBin gIx (mBin gIx (mFrz 0) (mFrz 4)) (mFrz 6)) mNil)))) (mCons (mC (.bool true)) mNil))) (mCons (mBin gMul (mFrz 5) (mBin gSub (mBin gIx (mBin gIx (mFrz 0) (mFrz 4)) (mFrz 6)) (mBin gIx (mBin gIx (mFrz 0) (mFrz 4)) (mBin gSub (mFrz 6) (mC (.int 1)))))) mNil)))))
  mNext))
  mNext)))
  (mSeq (mRet (mCall f__law_norm [none, none] (mCons (mFrz 3) (mCons (mFrz 2) mNil))))
  mNext)))
def f__law_sum_row : List D → Option (D × List D) := runD N__law_sum_row.length [] m__law_sum_row
theorem ok__law_sum_row {P : Program} {w : World} {K : PySem.W.Frag} {mg : Str → Option Value} {base : Heap} {a : Ad} {d : Fd} (T : Txt w K mg base a d) : FnOk P w K mg base CX0 2 a.a__law_sum_row d.d__law_sum_row P__law_sum_row (spD ⟨K, w⟩ a.tabs [] P__law_sum_row.length f__law_sum_row) := by
  have G__law_norm := ok__law_norm (P := P) (w := w) T
  refine okD (k := 1) T.F__law_sum_row sc__law_sum_row fun A outer s H E S A0 hr => ?_
  exact (ss_cons (sown 3 sc__law_sum_row.nd (x_lstN (pe_lst xa_nil)))
      (ss_cons (s_for PassesOwn.never rfl (w_seq2 (xf 1)) (fun _ => (g_tup rfl (gs_cons (gn 4 sc__law_sum_row.nd) (gs_cons (gn 5 sc__law_sum_row.nd) gs_nil gSet_keep) gSet_keep))) (fun _ => (ss_cons (s_asg (x_bin o_sub (xf 2) (x_bin o_mul (xf 5) (x_ix (o_ix (hu_of hr)) (x_ix (o_ix (hu_of hr)) (xf 0) (xf 4) (fun _ _ => rfl)) x_int (fun _ _ => rfl)))) (gn 2 sc__law_sum_row.nd))
      (ss_cons (s_for PassesOwn.never rfl (w_range2 (by rfl) T.z_range (xa_cons x_int (xa_cons (x_callB c_len (by rfl) T.z_len (by decide +kernel) (xa_cons (x_ix (o_ix (hu_of hr)) (xf 0) (xf 4) (fun _ _ => rfl)) xa_nil)) xa_nil))) (fun _ => (gn 6 sc__law_sum_row.nd)) (fun _ => (ss_cons (s_expr (x_append (i := 3) rfl (by first | exact Or.inl rfl | exact Or.inr (Or.inl rfl) | exact Or.inr (Or.inr rfl)) (x_tup (FrzT.pe_tupF (xa_cons (x_tup (FrzT.pe_tupF (xa_cons (x_tup (FrzT.pe_tupF (xa_cons x_str (xa_cons (xf 4) (xa_cons (x_ix (o_ix (hu_of hr)) (x_ix (o_ix (hu_of hr)) (xf 0) (xf 4) (fun _ _ => rfl)) (xf 6) (fun _ _ => rfl)) xa_nil))))) (xa_cons x_bl xa_nil)))) (xa_cons (x_bin o_mul (xf 5) (x_bin o_sub (x_ix (o_ix (hu_of hr)) (x_ix (o_ix (hu_of hr)) (xf 0) (xf 4) (fun _ _ => rfl)) (xf 6) (fun _ _ => rfl)) (x_ix (o_ix (hu_of hr)) (x_ix (o_ix (hu_of hr)) (xf 0) (xf 4) (fun _ _ => rfl)) (x_bin o_sub (xf 6) x_int) (fun _ _ => rfl)))) xa_nil))))))
      ss_nil)))
      ss_nil))))
      (ss_cons (sret (x_call (ts := [none, none]) G__law_norm (hr.mono (by decide)) (by rfl) T.m__law_norm T.k__law_norm T.b__law_norm (xc_plain (xf 3) (xc_plain (xf 2) xc_nil))))
      ss_nil)))
def m__law_unlike_rows : MS :=
  (mSeq (mAsg (mC (.dict [])) (gOwn 2))
  (mSeq (mFor (mItems2 (mFrz 1)) (gSet 3) (mSeq (mFor (mItems2 (mBin gIx (mFrz 0) (mFrz 3))) (gSet 4) (mSeq (mPut 2 (mFrz 4) (mBin gAdd (mGet2 (mVar 2) (mFrz 4) (mC (.int 0))) (mC (.int 1))))
  mNext))
  mNext))
  (mSeq (mAsg (mApp gLstD mNil) (gOwn 5))
  (mSeq (mFor (mItems2 (mApp gSorted4 (mCons (mVar 2) mNil))) (gSet 4) (mSeq (mIfS (mB (mBin gGt (mBin gIx (mVar 2) (mFrz 4)) (mC (.int 1)))) (mSeq (mDrop (mMut 5 gApp (mCall f__law_at_most [none, none] (mCons (mLc (mItems2 (mFrz 1)) (gSet 3) (mB (mBin gIn (mFrz 4) (mBin gIx (mFrz 0) (mFrz 3)))) (mApp gTupD (mCons (mC (.str "is")) (mCons (mFrz 3) (mCons (mFrz 4) mNil)))) [3]) (mCons (mC (.int 1)) mNil)))))
  mNext) mNext)
  mNext))
  (mSeq (mRet (mOwn 5))
  mNext)))))
def f__law_unlike_rows : List D → Option (D × List D) := runN N__law_unlike_rows.length [] m__law_unlike_rows
theorem ok__law_unlike_rows {P : Program} {w : World} {K : PySem.W.Frag} {mg : Str → Option Value} {base : Heap} {a : Ad} {d : Fd} (T : Txt w K mg base a d) : FnOk P w K mg base CX0 3 a.a__law_unlike_rows d.d__law_unlike_rows P__law_unlike_rows (spN ⟨K, w⟩ a.tabs [] P__law_unlike_rows.length f__law_unlike_rows) := by
  have G__law_at_most := ok__law_at_most (P := P) (w := w) T
  refine okN (k := 2) T.F__law_unlike_rows sc__law_unlike_rows fun A outer s H E S A0 hr => ?_
  exact (ss_cons (sown 2 sc__law_unlike_rows.nd x_dicN)
      (ss_cons (s_for PassesOwn.never rfl (w_seq2 (xf 1)) (fun _ => (gn 3 sc__law_unlike_rows.nd)) (fun _ => (ss_cons (s_for PassesOwn.never rfl (w_seq2 (x_ix (o_ix (hu_of hr)) (xf 0) (xf 3) (fun _ _ => rfl))) (fun _ => (gn 4 sc__law_unlike_rows.nd)) (fun _ => (ss_cons (sput 2 (hu_of hr) (xf 4) (x_bin o_add (x_get2 (hu_of hr) (xv 2) (xf 4) x_int) x_int))
      ss_nil)))
      ss_nil)))
      (ss_cons (sown 5 sc__law_unlike_rows.nd (x_lstN (pe_lst xa_nil)))
      (ss_cons (s_for PassesOwn.never rfl (w_seq2 (x_callB (c_sorted4 rfl (hu65 hr)) (by rfl) T.z_sorted (by decide +kernel) (xa_cons (xv 2) xa_nil))) (fun _ => (gn 4 sc__law_unlike_rows.nd)) (fun _ => (ss_cons (s_if (t_cmp o_gt (x_ix (o_ix (hu_of hr)) (xv 2) (xf 4) (fun _ _ => rfl)) x_int) (ss_cons (s_expr (x_append (i := 5) rfl (by first | exact Or.inl rfl | exact Or.inr (Or.inl rfl) | exact Or.inr (Or.inr rfl)) (x_call (ts := [none, none]) G__law_at_most (hr.mono (by decide)) (by rfl) T.m__law_at_most T.k__law_at_most T.b__law_at_most (xc_plain (x_new (x_lc (own := [("x", 3)]) rfl sc__law_unlike_rows.nd (w_seq2 (xf 1)) (blkOk_by (own := [("x", 3)]) (N := N__law_unlike_rows) (sc := defScope s__law_unlike_rows) (by decide +kernel)) (fun _ _ _ _ _ _ => (gnW 3 sc__law_unlike_rows.nd)) (fun _ _ _ _ _ _ => (ts_one (t_cmp (o_in (hu65 hr)) (xf 4) (x_ix (o_ix (hu_of hr)) (xf 0) (xf 3) (fun _ _ => rfl))))) (fun _ _ _ _ _ _ => (x_tup (FrzT.pe_tupF (xa_cons x_str (xa_cons (xf 3) (xa_cons (xf 4) xa_nil)))))) (hv := nios rfl))) (xc_plain x_int xc_nil)))))
      ss_nil) ss_nil)
      ss_nil)))
      (ss_cons (sretO 5)
      ss_nil)))))
def m__law_counts_rows : MS :=
  (mSeq (mAsg (mApp gLstD mNil) (gSet 3))
  (mSeq (mFor (mItems2 (mFrz 2)) (gTupT 3 (gsCons (gSet 4) (gsCons (gSet 5) (gsCons (gSet 6) gsNil)))) (mSeq (mAsg (mLc (mItems2 (mFrz 1)) (gSet 8) (mB (mBin gIn (mFrz 4) (mBin gIx (mFrz 0) (mFrz 8)))) (mApp gTupD (mCons (mC (.str "is")) (mCons (mFrz 8) (mCons (mFrz 4) mNil)))) [8]) (gSet 7))
  (mSeq (mAsg (mBin gAdd (mFrz 3) (mApp gLstD (mCons (mCall f__law_at_least [none, none] (mCons (mFrz 7) (mCons (mFrz 5) mNil))) (mCons (mCall f__law_at_most [none, none] (mCons (mFrz 7) (mCons (mFrz 6) mNil))) mNil)))) (gSet 3))
  mNext)))
  (mSeq (mRet (mFrz 3))
  mNext)))
def f__law_counts_rows : List D → Option (D × List D) := runD N__law_counts_rows.length [] m__law_counts_rows
theorem ok__law_counts_rows {P : Program} {w : World} {K : PySem.W.Frag} {mg : Str → Option Value} {base : Heap} {a : Ad} {d : Fd} (T : Txt w K mg base a d) : FnOk P w K mg base CX0 3 a.a__law_counts_rows d.d__law_counts_rows P__law_counts_rows (spD ⟨K, w⟩ a.tabs [] P__law_counts_rows.length f__law_counts_rows) := by
  have G__law_at_most := ok__law_at_most (P := P) (w := w) T
  have G__law_at_least := ok__law_at_least (P := P) (w := w) T
  refine okD (k := 2) T.F__law_counts_rows sc__law_counts_rows fun A outer s H E S A0 hr => ?_
  exact (ss_cons (s_asg (x_lst (pe_lst xa_nil)) (gn 3 sc__law_counts_rows.nd))
      (ss_cons (s_for PassesOwn.never rfl (w_seq2 (xf 2)) (fun _ => (g_tup rfl (gs_cons (gn 4 sc__law_counts_rows.nd) (gs_cons (gn 5 sc__law_counts_rows.nd) (gs_cons (gn 6 sc__law_counts_rows.nd) gs_nil gSet_keep) gSet_keep) gSet_keep))) (fun _ => (ss_cons (sset_lc 7 (own := [("x", 8)]) rfl sc__law_counts_rows.nd (w_seq2 (xf 1)) (blkOk_by (own := [("x", 8)]) (N := N__law_counts_rows) (sc := defScope s__law_counts_rows) (by decide +kernel)) (fun _ _ _ _ _ _ => (gnW 8 sc__law_counts_rows.nd)) (fun _ _ _ _ _ _ => (ts_one (t_cmp (o_in (hu65 hr)) (xf 4) (x_ix (o_ix (hu_of hr)) (xf 0) (xf 8) (fun _ _ => rfl))))) (fun _ _ _ _ _ _ => (x_tup (FrzT.pe_tupF (xa_cons x_str (xa_cons (xf 8) (xa_cons (xf 4) xa_nil)))))) (hv := nios rfl))
      (ss_cons (s_asg (x_bin o_add (xf 3) (x_lst (pe_lst (xa_cons (x_call (ts := [none, none]) G__law_at_least (hr.mono (by decide)) (by rfl) T.m__law_at_least T.k__law_at_least T.b__law_at_least (xc_plain (xf 7) (xc_plain (xf 5) xc_nil))) (xa_cons (x_call (ts := [none, none]) G__law_at_most (hr.mono (by decide)) (by rfl) T.m__law_at_most T.k__law_at_most T.b__law_at_most (xc_plain (xf 7) (xc_plain (xf 6) xc_nil))) xa_nil))))) (gn 3 sc__law_counts_rows.nd))
      ss_nil))))
      (ss_cons (sret (xf 3))
      ss_nil)))
def m__law_works_rows : MS :=
  (mSeq (mAsg (mFrz 1) (gTupT 5 (gsCons (gSet 2) (gsCons (gSet 3) (gsCons (gSet 4) (gsCons (gSet 5) (gsCons (gSet 6) gsNil)))))))
  (mSeq (mAsg (mC (.dict [])) (gOwn 7))
  (mSeq (mFor (mItems2 (mFrz 3)) (gSet 8) (mSeq (mFor (mItems2 (mBin gIx (mFrz 0) (mFrz 8))) (gSet 9) (mSeq (mPut 7 (mFrz 9) (mC (.bool true)))
  mNext))
  mNext))
  (mSeq (mAsg (mApp gLstD mNil) (gOwn 10))
  (mSeq (mFor (mItems2 (mApp gSorted4 (mCons (mVar 7) mNil))) (gSet 9) (mSeq (mAsg (mApp gLstD mNil) (gOwn 11))
  (mSeq (mAsg (mUn gNeg (mFrz 6)) (gSet 12))
  (mSeq (mFor (mRange gRange1 (mCons (mApp gLen (mCons (mFrz 3) mNil)) mNil)) (gSet 13) (mSeq (mAsg (mCall f__law_from [none, none, none] (mCons (mFrz 0) (mCons (mBin gIx (mFrz 3) (mFrz 13)) (mCons (mBin gAdd (mBin gSub (mFrz 9) (mBin gIx (mFrz 4) (mFrz 13))) (mC (.int 1))) mNil)))) (gSet 14))
  (mSeq (mAsg (mCall f__law_from [none, none, none] (mCons (mFrz 0) (mCons (mBin gIx (mFrz 3) (mFrz 13)) (mCons (mBin gAdd (mFrz 9) (mC (.int 1))) mNil)))) (gSet 15))
  (mSeq (mFor (mItems2 (mApp gLstD (mCons (mApp gTupD (mCons (mFrz 14) (mCons (mUn gNeg (mBin gIx (mFrz 5) (mFrz 13))) mNil))) (mCons (mApp gTupD (mCons (mFrz 15) (mCons (mBin gIx (mFrz 5) (mFrz 13)) mNil))) mNil)))) (gTupT 2 (gsCons (gSet 16) (gsCons (gSet 17) gsNil))) (mSeq (mIfS (mB (mBin gEq (mFrz 16) (mC (.str "always")))) (mSeq (mAsg (mBin gSub (mFrz 12) (mFrz 17)) (gSet 12))
  mNext) (mSeq (mIfS (mB (mBin gNe (mFrz 16) (mC (.str "never")))) (mSeq (mDrop (mMut 11 gApp (mApp gTupD (mCons (mApp gTupD (mCons (mFrz 16) (mCons (mC (.bool true)) mNil))) (mCons (mFrz 17) mNil)))))
  mNext) mNext)
  mNext))
  mNext))
  mNext))))
  (mSeq (mDrop (mMut 10 gApp (mCall f__law_norm [none, none] (mCons (mFrz 11) (mCons (mFrz 12) mNil)))))
  mNext)))))
  (mSeq (mRet (mOwn 10))
  mNext))))))
def f__law_works_rows : List D → Option (D × List D) := runN N__law_works_rows.length [] m__law_works_rows
theorem ok__law_works_rows {P : Program} {w : World} {K : PySem.W.Frag} {mg : Str → Option Value} {base : Heap} {a : Ad} {d : Fd} (T : Txt w K mg base a d) : FnOk P w K mg base CX0 2 a.a__law_works_rows d.d__law_works_rows P__law_works_rows (spN ⟨K, w⟩ a.tabs [] P__law_works_rows.length f__law_works_rows) := by
  have G__law_norm := ok__law_norm (P := P) (w := w) T
  have G__law_from := ok__law_from (P := P) (w := w) T
  refine okN (k := 1) T.F__law_works_rows sc__law_works_rows fun A outer s H E S A0 hr => ?_
  exact (ss_cons (s_asg (xf 1) (g_tup rfl (gs_cons (gn 2 sc__law_works_rows.nd) (gs_cons (gn 3 sc__law_works_rows.nd) (gs_cons (gn 4 sc__law_works_rows.nd) (gs_cons (gn 5 sc__law_works_rows.nd) (gs_cons (gn 6 sc__law_works_rows.nd) gs_nil gSet_keep) gSet_keep) gSet_keep) gSet_keep) gSet_keep)))
      (ss_cons (sown 7 sc__law_works_rows.nd x_dicN)
      (ss_cons (s_for PassesOwn.never rfl (w_seq2 (xf 3)) (fun _ => (gn 8 sc__law_works_rows.nd)) (fun _ => (ss_cons (s_for PassesOwn.never rfl (w_seq2 (x_ix (o_ix (hu_of hr)) (xf 0) (xf 8) (fun _ _ => rfl))) (fun _ => (gn 9 sc__law_works_rows.nd)) (fun _ => (ss_cons (sput 7 (hu_of hr) (xf 9) x_bl)
      ss_nil)))
      ss_nil)))
      (ss_cons (sown 10 sc__law_works_rows.nd (x_lstN (pe_lst xa_nil)))
      (ss_cons (s_for PassesOwn.never rfl (w_seq2 (x_callB (c_sorted4 rfl (hu65 hr)) (by rfl) T.z_sorted (by decide +kernel) (xa_cons (xv 7) xa_nil))) (fun _ => (gn 9 sc__law_works_rows.nd)) (fun _ => (ss_cons (sown 11 sc__law_works_rows.nd (x_lstN (pe_lst xa_nil)))
      (ss_cons (s_asg (x_neg (xf 6)) (gn 12 sc__law_works_rows.nd))
      (ss_cons (s_for PassesOwn.never rfl (w_range1 (by rfl) T.z_range (xa_cons (x_callB c_len (by rfl) T.z_len (by decide +kernel) (xa_cons (xf 3) xa_nil)) xa_nil)) (fun _ => (gn 13 sc__law_works_rows.nd)) (fun _ => (ss_cons (s_asg (x_call (ts := [none, none, none]) G__law_from (hr.mono (by decide)) (by rfl) T.m__law_from T.k__law_from T.b__law_from (xc_plain (xf 0) (xc_plain (x_ix (o_ix (hu_of hr)) (xf 3) (xf 13) (fun _ _ => rfl)) (xc_plain (x_bin o_add (x_bin o_sub (xf 9) (x_ix (o_ix (hu_of hr)) (xf 4) (xf 13) (fun _ _ => rfl))) x_int) xc_nil)))) (gn 14 sc__law_works_rows.nd))
      (ss_cons (s_asg (x_call (ts := [none, none, none]) G__law_from (hr.mono (by decide)) (by rfl) T.m__law_from T.k__law_from T.b__law_from (xc_plain (xf 0) (xc_plain (x_ix (o_ix (hu_of hr)) (xf 3) (xf 13) (fun _ _ => rfl)) (xc_plain (x_bin o_add (xf 9) x_int) xc_nil)))) (gn 15 sc__law_works_rows.nd))
      (ss_cons (s_for PassesOwn.never rfl (w_seq2 (x_lst (pe_lst (xa_cons (x_tup (FrzT.pe_tupF (xa_cons (xf 14) (xa_cons (x_neg (x_ix (o_ix (hu_of hr)) (xf 5) (xf 13) (fun _ _ => rfl))) xa_nil)))) (xa_cons (x_tup (FrzT.pe_tupF (xa_cons (xf 15) (xa_cons (x_ix (o_ix (hu_of hr)) (xf 5) (xf 13) (fun _ _ => rfl)) xa_nil)))) xa_nil))))) (fun _ => (g_tup rfl (gs_cons (gn 16 sc__law_works_rows.nd) (gs_cons (gn 17 sc__law_works_rows.nd) gs_nil gSet_keep) gSet_keep))) (fun _ => (ss_cons (s_if (t_cmp (o_eq hr.units) (xf 16) x_str) (ss_cons (s_asg (x_bin o_sub (xf 12) (xf 17)) (gn 12 sc__law_works_rows.nd))
      ss_nil) (ss_cons (s_if (t_cmp (o_ne hr.units) (xf 16) x_str) (ss_cons (s_expr (x_append (i := 11) rfl (by first | exact Or.inl rfl | exact Or.inr (Or.inl rfl) | exact Or.inr (Or.inr rfl)) (x_tup (FrzT.pe_tupF (xa_cons (x_tup (FrzT.pe_tupF (xa_cons (xf 16) (xa_cons x_bl xa_nil)))) (xa_cons (xf 17) xa_nil))))))
      ss_nil) ss_nil)
      ss_nil))
      ss_nil)))
      ss_nil)))))
      (ss_cons (s_expr (x_append (i := 10) rfl (by first | exact Or.inl rfl | exact Or.inr (Or.inl rfl) | exact Or.inr (Or.inr rfl)) (x_call (ts := [none, none]) G__law_norm (hr.mono (by decide)) (by rfl) T.m__law_norm T.k__law_norm T.b__law_norm (xc_plain (xf 11) (xc_plain (xf 12) xc_nil)))))
      ss_nil))))))
      (ss_cons (sretO 10)
      ss_nil))))))
def m__law_further : MS :=
  (mSeq (mAsg (mApp gLstD mNil) (gOwn 2))
  (mSeq (mFor (mItems2 (mFrz 0)) (gTupT 2 (gsCons (gSet 3) (gsCons (gSet 4) gsNil))) (mSeq (mAsg (mIf (mB (mBin gGt (mFrz 4) (mC (.int 0)))) (mApp gTupD (mCons (mApp gTupD (mCons (mApp gTupD (mCons (mFrz 1) (mCons (mC (.bool false)) mNil))) (mCons (mFrz 4) mNil))) mNil)) (mApp gTupD mNil)) (gSet 5))
  (mSeq (mDrop (mMut 2 gApp (mApp gTupD (mCons (mApp gTupOf (mCons (mApp gSorted5 (mCons (mBin gAdd (mFrz 3) (mFrz 5)) mNil)) mNil)) (mCons (mFrz 4) mNil)))))
  mNext)))
  (mSeq (mRet (mFrz 2))
  mNext)))
def f__law_further : List D → Option (D × List D) := runD N__law_further.length [] m__law_further
theorem ok__law_further {P : Program} {w : World} {K : PySem.W.Frag} {mg : Str → Option Value} {base : Heap} {a : Ad} {d : Fd} (T : Txt w K mg base a d) : FnOk P w K mg base CX0 1 a.a__law_further d.d__law_further P__law_further (spD ⟨K, w⟩ a.tabs [] P__law_further.length f__law_further) := by
  refine okD (k := 0) T.F__law_further sc__law_further fun A outer s H E S A0 hr => ?_
  exact (ss_cons (sown 2 sc__law_further.nd (x_lstN (pe_lst xa_nil)))
      (ss_cons (s_for PassesOwn.never rfl (w_seq2 (xf 0)) (fun _ => (g_tup rfl (gs_cons (gn 3 sc__law_further.nd) (gs_cons (gn 4 sc__law_further.nd) gs_nil gSet_keep) gSet_keep))) (fun _ => (ss_cons (s_asg (x_if (t_cmp o_gt (xf 4) x_int) (x_tup (FrzT.pe_tupF (xa_cons (x_tup (FrzT.pe_tupF (xa_cons (x_tup (FrzT.pe_tupF (xa_cons (xf 1) (xa_cons x_bl xa_nil)))) (xa_cons (xf 4) xa_nil)))) xa_nil))) (x_tup (FrzT.pe_tupF xa_nil))) (gn 5 sc__law_further.nd))
      (ss_cons (s_expr (x_append (i := 2) rfl (by first | exact Or.inl rfl | exact Or.inr (Or.inl rfl) | exact Or.inr (Or.inr rfl)) (x_tup (FrzT.pe_tupF (xa_cons (x_callTy c_tuple (by rfl) T.z_tuple (by decide +kernel) (xa_cons (x_callB (c_sorted5 rfl (hu65 hr)) (by rfl) T.z_sorted (by decide +kernel) (xa_cons (x_bin o_add (xf 3) (xf 5)) xa_nil)) xa_nil)) (xa_cons (xf 4) xa_nil))))))
      ss_nil))))
      (ss_cons (sret (xf 2))
      ss_nil)))
def m__law_sums : MS :=
  (mSeq (mAsg (mCall f__law_draw [some 0, none] (mConsIo 0 (mCons (mC (.int 5)) mNil))) (gSet 4))
  (mSeq (mAsg (mCall f__law_taken [some 0, none, none] (mConsIo 0 (mCons (mFrz 2) (mCons (mIf (mB (mFrz 3)) (mApp gMin2 (mCons (mC (.int 12)) (mCons (mApp gLen (mCons (mFrz 2) mNil)) mNil))) (mBin gAdd (mC (.int 1)) (mCall f__law_draw [some 0, none] (mConsIo 0 (mCons (mApp gLen (mCons (mFrz 2) mNil)) mNil))))) mNil)))) (gSet 5))
  (mSeq (mIfS (mB (mBin gLt (mFrz 4) (mC (.int 2)))) (mSeq (mAsg (mApp gTupOf (mCons (mLc (mItems2 (mFrz 5)) (gSet 14) mYes (mApp gTupD (mCons (mFrz 14) (mCons (mBin gIx (mApp gLstD (mCons (mC (.int 1)) (mCons (mUn gNeg (mC (.int 1))) (mCons (mC (.int 2)) (mCons (mUn gNeg (mC (.int 3))) (mCons (mC (.int 100)) (mCons (mUn gNeg (mC (.int 100))) (mCons (mC (.int 7)) (mCons (mC (.int 1)) mNil))))))))) (mCall f__law_draw [some 0, none] (mConsIo 0 (mCons (mC (.int 8)) mNil)))) mNil))) [14]) mNil)) (gSet 6))
  (mSeq (mAsg (mBin gIx (mApp gLstD (mCons (mBin gSub (mCall f__law_draw [some 0, none] (mConsIo 0 (mCons (mC (.int 31)) mNil))) (mC (.int 15))) (mCons (mBin gSub (mCall f__law_draw [some 0, none] (mConsIo 0 (mCons (mC (.int 31)) mNil))) (mC (.int 15))) (mCons (mC (.int 1000000)) (mCons (mUn gNeg (mC (.int 1000000))) mNil))))) (mCall f__law_draw [some 0, none] (mConsIo 0 (mCons (mC (.int 4)) mNil)))) (gSet 7))
  (mSeq (mRet (mApp gTupD (mCons (mBin gIx (mApp gLstD (mCons (mC (.str "least")) (mCons (mC (.str "same")) mNil))) (mFrz 4)) (mCons (mFrz 6) (mCons (mFrz 7) mNil)))))
  mNext))) mNext)
  (mSeq (mIfS (mB (mBin gEq (mFrz 4) (mC (.int 2)))) (mSeq (mRet (mApp gTupD (mCons (mC (.str "unlike")) (mCons (mFrz 5) mNil))))
  mNext) mNext)
  (mSeq (mIfS (mB (mBin gEq (mFrz 4) (mC (.int 3)))) (mSeq (mAsg (mC (.dict [])) (gOwn 8))
  (mSeq (mFor (mRange gRange1 (mCons (mBin gAdd (mBin gAdd (mC (.int 1)) (mCall f__law_draw [some 0, none] (mConsIo 0 (mCons (mC (.int 4)) mNil)))) (mBin gMul (mC (.int 8)) (mApp gInt (mCons (mFrz 3) mNil)))) mNil)) (gSet 9) (mSeq (mAsg (mBin gIx (mApp gLstD (mCons (mCall f__law_value [some 0, none] (mConsIo 0 (mCons (mBin gIx (mFrz 1) (mBin gIx (mFrz 5) (mCall f__law_draw [some 0, none] (mConsIo 0 (mCons (mApp gLen (mCons (mFrz 5) mNil)) mNil))))) mNil))) (mCons (mC (.int 200)) (mCons (mUn gNeg (mC (.int 200))) mNil)))) (mApp gMax2 (mCons (mC (.int 0)) (mCons (mBin gSub (mCall f__law_draw [some 0, none] (mConsIo 0 (mCons (mC (.int 8)) mNil))) (mC (.int 5))) mNil)))) (gSet 10))
  (mSeq (mAsg (mBin gIx (mApp gLstD (mCons (mC (.int 0)) (mCons (mC (.int 0)) (mCons (mC (.int 1)) (mCons (mC (.int 2)) (mCons (mC (.int 12)) mNil)))))) (mCall f__law_draw [some 0, none] (mConsIo 0 (mCons (mC (.int 5)) mNil)))) (gSet 11))
  (mSeq (mPut 8 (mFrz 10) (mApp gTupD (mCons (mFrz 11) (mCons (mApp gMin2 (mCons (mC (.int 12)) (mCons (mBin gAdd (mFrz 11) (mBin gIx (mApp gLstD (mCons (mC (.int 0)) (mCons (mC (.int 1)) (mCons (mC (.int 2)) (mCons (mC (.int 12)) mNil))))) (mCall f__law_draw [some 0, none] (mConsIo 0 (mCons (mC (.int 4)) mNil))))) mNil))) mNil))))
  mNext))))
  (mSeq (mRet (mApp gTupD (mCons (mC (.str "counts")) (mCons (mFrz 5) (mCons (mApp gTupOf (mCons (mLc (mItems2 (mApp gSorted4 (mCons (mVar 8) mNil))) (gSet 10) mYes (mBin gAdd (mApp gTupD (mCons (mFrz 10) mNil)) (mBin gIx (mVar 8) (mFrz 10))) [10]) mNil)) mNil)))))
  mNext))) mNext)
  (mSeq (mAsg (mApp gTupOf (mCons (mLc (mItems2 (mFrz 5)) (gSet 14) mYes (mBin gIx (mApp gLstD (mCons (mC (.int 1)) (mCons (mC (.int 2)) (mCons (mC (.int 3)) (mCons (mC (.int 5)) (mCons (mC (.int 50)) mNil)))))) (mCall f__law_draw [some 0, none] (mConsIo 0 (mCons (mC (.int 5)) mNil)))) [14]) mNil)) (gSet 12))
  (mSeq (mAsg (mApp gTupOf (mCons (mLc (mItems2 (mFrz 5)) (gSet 14) mYes (mBin gIx (mApp gLstD (mCons (mC (.int 0)) (mCons (mC (.int 1)) (mCons (mC (.int 2)) (mCons (mC (.int 3)) (mCons (mC (.int 100)) mNil)))))) (mCall f__law_draw [some 0, none] (mConsIo 0 (mCons (mC (.int 5)) mNil)))) [14]) mNil)) (gSet 13))
  (mSeq (mRet (mApp gTupD (mCons (mC (.str "works")) (mCons (mFrz 5) (mCons (mFrz 12) (mCons (mFrz 13) (mCons (mBin gIx (mApp gLstD (mCons (mCall f__law_draw [some 0, none] (mConsIo 0 (mCons (mC (.int 9)) mNil))) (mCons (mCall f__law_draw [some 0, none] (mConsIo 0 (mCons (mC (.int 9)) mNil))) (mCons (mC (.int 100)) (mCons (mC (.int 1200)) mNil))))) (mCall f__law_draw [some 0, none] (mConsIo 0 (mCons (mC (.int 4)) mNil)))) mNil)))))))
  mNext))))))))
def f__law_sums : List D → Option (D × List D) := runD N__law_sums.length [0] m__law_sums
theorem ok__law_sums {P : Program} {w : World} {K : PySem.W.Frag} {mg : Str → Option Value} {base : Heap} {a : Ad} {d : Fd} (T : Txt w K mg base a d) : FnOk P w K mg base CX0 3 a.a__law_sums d.d__law_sums P__law_sums (spD ⟨K, w⟩ a.tabs [0] P__law_sums.length f__law_sums) := by
  have G__law_draw := ok__law_draw (P := P) (w := w) T
  have G__law_value := ok__law_value (P := P) (w := w) T
  have G__law_taken := ok__law_taken (P := P) (w := w) T
  refine okD (k := 2) T.F__law_sums sc__law_sums fun A outer s H E S A0 hr => ?_
  exact (ss_cons (s_asg (x_call (ts := [some 0, none]) G__law_draw (hr.mono (by decide)) (by rfl) T.m__law_draw T.k__law_draw T.b__law_draw (xcio 0 (xc_plain x_int xc_nil))) (gn 4 sc__law_sums.nd))
      (ss_cons (s_asg (x_call (ts := [some 0, none, none]) G__law_taken (hr.mono (by decide)) (by rfl) T.m__law_taken T.k__law_taken T.b__law_taken (xcio 0 (xc_plain (xf 2) (xc_plain (x_if (t_val (xf 3)) (x_callB (c_min2 rfl) (by rfl) T.z_min (by decide +kernel) (xa_cons x_int (xa_cons (x_callB c_len (by rfl) T.z_len (by decide +kernel) (xa_cons (xf 2) xa_nil)) xa_nil))) (x_bin o_add x_int (x_call (ts := [some 0, none]) G__law_draw (hr.mono (by decide)) (by rfl) T.m__law_draw T.k__law_draw T.b__law_draw (xcio 0 (xc_plain (x_callB c_len (by rfl) T.z_len (by decide +kernel) (xa_cons (xf 2) xa_nil)) xc_nil))))) xc_nil)))) (gn 5 sc__law_sums.nd))
      (ss_cons (s_if (t_cmp o_lt (xf 4) x_int) (ss_cons (s_asg (x_callTy c_tuple (by rfl) T.z_tuple (by decide +kernel) (xa_cons (x_new (x_lc (own := [("x", 14)]) rfl sc__law_sums.nd (w_seq2 (xf 5)) (blkOk_by (own := [("x", 14)]) (N := N__law_sums) (sc := defScope s__law_sums) (by decide +kernel)) (fun _ _ _ _ _ _ => (gnW 14 sc__law_sums.nd)) (fun _ _ _ _ _ _ => ts_nil) (fun _ _ _ _ _ _ => (x_tup (FrzT.pe_tupF (xa_cons (xf 14) (xa_cons (x_ix (o_ix (hu_of hr)) (x_lst (pe_lst (xa_cons x_int (xa_cons (x_neg x_int) (xa_cons x_int (xa_cons (x_neg x_int) (xa_cons x_int (xa_cons (x_neg x_int) (xa_cons x_int (xa_cons x_int xa_nil)))))))))) (x_call (ts := [some 0, none]) G__law_draw (hr.mono (by decide)) (by rfl) T.m__law_draw T.k__law_draw T.b__law_draw (xcio 0 (xc_plain x_int xc_nil))) (fun _ _ => rfl)) xa_nil))))) (hv := nios rfl))) xa_nil)) (gn 6 sc__law_sums.nd))
      (ss_cons (s_asg (x_ix (o_ix (hu_of hr)) (x_lst (pe_lst (xa_cons (x_bin o_sub (x_call (ts := [some 0, none]) G__law_draw (hr.mono (by decide)) (by rfl) T.m__law_draw T.k__law_draw T.b__law_draw (xcio 0 (xc_plain x_int xc_nil))) x_int) (xa_cons (x_bin o_sub (x_call (ts := [some 0, none]) G__law_draw (hr.mono (by decide)) (by rfl) T.m__law_draw T.k__law_draw T.b__law_draw (xcio 0 (xc_plain x_int xc_nil))) x_int) (xa_cons x_int (xa_cons (x_neg x_int) xa_nil)))))) (x_call (ts := [some 0, none]) G__law_draw (hr.mono (by decide)) (by rfl) T.m__law_draw T.k__law_draw T.b__law_draw (xcio 0 (xc_plain x_int xc_nil))) (fun _ _ => rfl)) (gn 7 sc__law_sums.nd))
      (ss_cons (sret (x_tup (FrzT.pe_tupF (xa_cons (x_ix (o_ix (hu_of hr)) (x_lst (pe_lst (xa_cons x_str (xa_cons x_str xa_nil)))) (xf 4) (fun _ _ => rfl)) (xa_cons (xf 6) (xa_cons (xf 7) xa_nil))))))
      ss_nil))) ss_nil)
      (ss_cons (s_if (t_cmp (o_eq hr.units) (xf 4) x_int) (ss_cons (sret (x_tup (FrzT.pe_tupF (xa_cons x_str (xa_cons (xf 5) xa_nil)))))
      ss_nil) ss_nil)
      (ss_cons (s_if (t_cmp (o_eq hr.units) (xf 4) x_int) (ss_cons (sown 8 sc__law_sums.nd x_dicN)
      (ss_cons (s_for PassesOwn.never rfl (w_range1 (by rfl) T.z_range (xa_cons (x_bin o_add (x_bin o_add x_int (x_call (ts := [some 0, none]) G__law_draw (hr.mono (by decide)) (by rfl) T.m__law_draw T.k__law_draw T.b__law_draw (xcio 0 (xc_plain x_int xc_nil)))) (x_bin o_mul x_int (x_callTy c_int (by rfl) T.z_int (by decide +kernel) (xa_cons (xf 3) xa_nil)))) xa_nil)) (fun _ => (gn 9 sc__law_sums.nd)) (fun _ => (ss_cons (s_asg (x_ix (o_ix (hu_of hr)) (x_lst (pe_lst (xa_cons (x_call (ts := [some 0, none]) G__law_value (hr.mono (by decide)) (by rfl) T.m__law_value T.k__law_value T.b__law_value (xcio 0 (xc_plain (x_ix (o_ix (hu_of hr)) (xf 1) (x_ix (o_ix (hu_of hr)) (xf 5) (x_call (ts := [some 0, none]) G__law_draw (hr.mono (by decide)) (by rfl) T.m__law_draw T.k__law_draw T.b__law_draw (xcio 0 (xc_plain (x_callB c_len (by rfl) T.z_len (by decide +kernel) (xa_cons (xf 5) xa_nil)) xc_nil))) (fun _ _ => rfl)) (fun _ _ => rfl)) xc_nil))) (xa_cons x_int (xa_cons (x_neg x_int) xa_nil))))) (x_callB (c_max2 rfl) (by rfl) T.z_max (by decide +kernel) (xa_cons x_int (xa_cons (x_bin o_sub (x_call (ts := [some 0, none]) G__law_draw (hr.mono (by decide)) (by rfl) T.m__law_draw T.k__law_draw T.b__law_draw (xcio 0 (xc_plain x_int xc_nil))) x_int) xa_nil))) (fun _ _ => rfl)) (gn 10 sc__law_sums.nd))
      (ss_cons (s_asg (x_ix (o_ix (hu_of hr)) (x_lst (pe_lst (xa_cons x_int (xa_cons x_int (xa_cons x_int (xa_cons x_int (xa_cons x_int xa_nil))))))) (x_call (ts := [some 0, none]) G__law_draw (hr.mono (by decide)) (by rfl) T.m__law_draw T.k__law_draw T.b__law_draw (xcio 0 (xc_plain x_int xc_nil))) (fun _ _ => rfl)) (gn 11 sc__law_sums.nd))
      (ss_cons (sput 8 (hu_of hr) (xf 10) (x_tup (FrzT.pe_tupF (xa_cons (xf 11) (xa_cons (x_callB (c_min2 rfl) (by rfl) T.z_min (by decide +kernel) (xa_cons x_int (xa_cons (x_bin o_add (xf 11) (x_ix (o_ix (hu_of hr)) (x_lst (pe_lst (xa_cons x_int (xa_cons x_int (xa_cons x_int (xa_cons x_int xa_nil)))))) (x_call (ts := [some 0, none]) G__law_draw (hr.mono (by decide)) (by rfl) T.m__law_draw T.k__law_draw T.b__law_draw (xcio 0 (xc_plain x_int xc_nil))) (fun _ _ => rfl))) xa_nil))) xa_nil)))))
      ss_nil)))))
      (ss_cons (sret (x_tup (FrzT.pe_tupF (xa_cons x_str (xa_cons (xf 5) (xa_cons (x_callTy c_tuple (by rfl) T.z_tuple (by decide +kernel) (xa_cons (x_new (x_lc (own := [("v", 10)]) rfl sc__law_sums.nd (w_seq2 (x_callB (c_sorted4 rfl (hu65 hr)) (by rfl) T.z_sorted (by decide +kernel) (xa_cons (xv 8) xa_nil))) (blkOk_by (own := [("v", 10)]) (N := N__law_sums) (sc := defScope s__law_sums) (by decide +kernel)) (fun _ _ _ _ _ _ => (gnW 10 sc__law_sums.nd)) (fun _ _ _ _ _ _ => ts_nil) (fun _ _ _ _ _ _ => (x_bin o_add (x_tup (FrzT.pe_tupF (xa_cons (xf 10) xa_nil))) (x_ix (o_ix (hu_of hr)) (xv 8) (xf 10) (fun _ _ => rfl)))) (hv := nios rfl))) xa_nil)) xa_nil))))))
      ss_nil))) ss_nil)
      (ss_cons (s_asg (x_callTy c_tuple (by rfl) T.z_tuple (by decide +kernel) (xa_cons (x_new (x_lc (own := [("x", 14)]) rfl sc__law_sums.nd (w_seq2 (xf 5)) (blkOk_by (own := [("x", 14)]) (N := N__law_sums) (sc := defScope s__law_sums) (by decide +kernel)) (fun _ _ _ _ _ _ => (gnW 14 sc__law_sums.nd)) (fun _ _ _ _ _ _ => ts_nil) (fun _ _ _ _ _ _ => (x_ix (o_ix (hu_of hr)) (x_lst (pe_lst (xa_cons x_int (xa_cons x_int (xa_cons x_int (xa_cons x_int (xa_cons x_int xa_nil))))))) (x_call (ts := [some 0, none]) G__law_draw (hr.mono (by decide)) (by rfl) T.m__law_draw T.k__law_draw T.b__law_draw (xcio 0 (xc_plain x_int xc_nil))) (fun _ _ => rfl))) (hv := nios rfl))) xa_nil)) (gn 12 sc__law_sums.nd))
      (ss_cons (s_asg (x_callTy c_tuple (by rfl) T.z_tuple (by decide +kernel) (xa_cons (x_new (x_lc (own := [("x", 14)]) rfl sc__law_sums.nd (w_seq2 (xf 5)) (blkOk_by (own := [("x", 14)]) (N := N__law_sums) (sc := defScope s__law_sums) (by decide +kernel)) (fun _ _ _ _ _ _ => (gnW 14 sc__law_sums.nd)) (fun _ _ _ _ _ _ => ts_nil) (fun _ _ _ _ _ _ => (x_ix (o_ix (hu_of hr)) (x_lst (pe_lst (xa_cons x_int (xa_cons x_int (xa_cons x_int (xa_cons x_int (xa_cons x_int xa_nil))))))) (x_call (ts := [some 0, none]) G__law_draw (hr.mono (by decide)) (by rfl) T.m__law_draw T.k__law_draw T.b__law_draw (xcio 0 (xc_plain x_int xc_nil))) (fun _ _ => rfl))) (hv := nios rfl))) xa_nil)) (gn 13 sc__law_sums.nd))
      (ss_cons (sret (x_tup (FrzT.pe_tupF (xa_cons x_str (xa_cons (xf 5) (xa_cons (xf 12) (xa_cons (xf 13) (xa_cons (x_ix (o_ix (hu_of hr)) (x_lst (pe_lst (xa_cons (x_call (ts := [some 0, none]) G__law_draw (hr.mono (by decide)) (by rfl) T.m__law_draw T.k__law_draw T.b__law_draw (xcio 0 (xc_plain x_int xc_nil))) (xa_cons (x_call (ts := [some 0, none]) G__law_draw (hr.mono (by decide)) (by rfl) T.m__law_draw T.k__law_draw T.b__law_draw (xcio 0 (xc_plain x_int xc_nil))) (xa_cons x_int (xa_cons x_int xa_nil)))))) (x_call (ts := [some 0, none]) G__law_draw (hr.mono (by decide)) (by rfl) T.m__law_draw T.k__law_draw T.b__law_draw (xcio 0 (xc_plain x_int xc_nil))) (fun _ _ => rfl)) xa_nil))))))))
      ss_nil))))))))
def m__law_due : MS :=
  (mSeq (mAsg (mUn gDictQ (mFrz 0)) (gSet 4))
  (mSeq (mAsg (mApp gLstD mNil) (gOwn 5))
  (mSeq (mIfS (mOrT (mB (mBin gEq (mBin gIx (mFrz 2) (mC (.int 0))) (mC (.str "least")))) (mB (mBin gEq (mBin gIx (mFrz 2) (mC (.int 0))) (mC (.str "same"))))) (mSeq (mDrop (mMut 5 gApp (mCall f__law_sum_row [none, none, none] (mCons (mFrz 4) (mCons (mBin gIx (mFrz 2) (mC (.int 1))) (mCons (mBin gIx (mFrz 2) (mC (.int 2))) mNil))))))
  mNext) mNext)
  (mSeq (mIfS (mB (mBin gEq (mBin gIx (mFrz 2) (mC (.int 0))) (mC (.str "same")))) (mSeq (mDrop (mMut 5 gApp (mCall f__law_sum_row [none, none, none] (mCons (mFrz 4) (mCons (mLc (mItems2 (mBin gIx (mFrz 2) (mC (.int 1)))) (gTupT 2 (gsCons (gSet 6) (gsCons (gSet 7) gsNil))) mYes (mApp gTupD (mCons (mFrz 6) (mCons (mUn gNeg (mFrz 7)) mNil))) [6, 7]) (mCons (mUn gNeg (mBin gIx (mFrz 2) (mC (.int 2)))) mNil))))))
  mNext) mNext)
  (mSeq (mIfS (mB (mBin gEq (mBin gIx (mFrz 2) (mC (.int 0))) (mC (.str "unlike")))) (mSeq (mAsg (mCall f__law_unlike_rows [none, none] (mCons (mFrz 4) (mCons (mBin gIx (mFrz 2) (mC (.int 1))) mNil))) (gOwn 5))
  mNext) mNext)
  (mSeq (mIfS (mB (mBin gEq (mBin gIx (mFrz 2) (mC (.int 0))) (mC (.str "counts")))) (mSeq (mAsg (mCall f__law_counts_rows [none, none, none] (mCons (mFrz 4) (mCons (mBin gIx (mFrz 2) (mC (.int 1))) (mCons (mBin gIx (mFrz 2) (mC (.int 2))) mNil)))) (gSet 5))
  mNext) mNext)
  (mSeq (mIfS (mB (mBin gEq (mBin gIx (mFrz 2) (mC (.int 0))) (mC (.str "works")))) (mSeq (mAsg (mCall f__law_works_rows [none, none] (mCons (mFrz 4) (mCons (mFrz 2) mNil))) (gOwn 5))
  mNext) mNext)
  (mSeq (mRet (mApp gTupOf (mCons (mIf (mB (mBin gGt (mFrz 3) (mC (.int 0)))) (mCall f__law_further [none, none] (mCons (mFrz 5) (mCons (mApp gTupD (mCons (mC (.str "kept")) (mCons (mFrz 1) mNil))) mNil))) (mVar 5)) mNil)))
  mNext))))))))
def f__law_due : List D → Option (D × List D) := runD N__law_due.length [] m__law_due
theorem ok__law_due {P : Program} {w : World} {K : PySem.W.Frag} {mg : Str → Option Value} {base : Heap} {a : Ad} {d : Fd} (T : Txt w K mg base a d) : FnOk P w K mg base CX0 4 a.a__law_due d.d__law_due P__law_due (spD ⟨K, w⟩ a.tabs [] P__law_due.length f__law_due) := by
  have G__law_further := ok__law_further (P := P) (w := w) T
  have G__law_works_rows := ok__law_works_rows (P := P) (w := w) T
  have G__law_counts_rows := ok__law_counts_rows (P := P) (w := w) T
  have G__law_unlike_rows := ok__law_unlike_rows (P := P) (w := w) T
  have G__law_sum_row := ok__law_sum_row (P := P) (w := w) T
  refine okD (k := 3) T.F__law_due sc__law_due fun A outer s H E S A0 hr => ?_
  exact (ss_cons (s_asg (x_new (x_dictQ rfl (by rfl) T.z_dict (xf 0))) (gn 4 sc__law_due.nd))
      (ss_cons (sown 5 sc__law_due.nd (x_lstN (pe_lst xa_nil)))
      (ss_cons (s_if (PW.pt (t_or (t_cmp (o_eq hr.units) (x_ix (o_ix (hu_of hr)) (xf 2) x_int (fun _ _ => rfl)) x_str) (t_or1 (t_cmp (o_eq hr.units) (x_ix (o_ix (hu_of hr)) (xf 2) x_int (fun _ _ => rfl)) x_str)))) (ss_cons (s_expr (x_append (i := 5) rfl (by first | exact Or.inl rfl | exact Or.inr (Or.inl rfl) | exact Or.inr (Or.inr rfl)) (x_call (ts := [none, none, none]) G__law_sum_row (hr.mono (by decide)) (by rfl) T.m__law_sum_row T.k__law_sum_row T.b__law_sum_row (xc_plain (xf 4) (xc_plain (x_ix (o_ix (hu_of hr)) (xf 2) x_int (fun _ _ => rfl)) (xc_plain (x_ix (o_ix (hu_of hr)) (xf 2) x_int (fun _ _ => rfl)) xc_nil))))))
      ss_nil) ss_nil)
      (ss_cons (s_if (t_cmp (o_eq hr.units) (x_ix (o_ix (hu_of hr)) (xf 2) x_int (fun _ _ => rfl)) x_str) (ss_cons (s_expr (x_append (i := 5) rfl (by first | exact Or.inl rfl | exact Or.inr (Or.inl rfl) | exact Or.inr (Or.inr rfl)) (x_call (ts := [none, none, none]) G__law_sum_row (hr.mono (by decide)) (by rfl) T.m__law_sum_row T.k__law_sum_row T.b__law_sum_row (xc_plain (xf 4) (xc_plain (x_new (x_lc (own := [("x", 6), ("w", 7)]) rfl sc__law_due.nd (w_seq2 (x_ix (o_ix (hu_of hr)) (xf 2) x_int (fun _ _ => rfl))) (blkOk_by (own := [("x", 6), ("w", 7)]) (N := N__law_due) (sc := defScope s__law_due) (by decide +kernel)) (fun _ _ _ _ _ _ => (g_tupW rfl (gs_consW (gnW 6 sc__law_due.nd) (gs_consW (gnW 7 sc__law_due.nd) gs_nilW)))) (fun _ _ _ _ _ _ => ts_nil) (fun _ _ _ _ _ _ => (x_tup (FrzT.pe_tupF (xa_cons (xf 6) (xa_cons (x_neg (xf 7)) xa_nil))))) (hv := nios rfl))) (xc_plain (x_neg (x_ix (o_ix (hu_of hr)) (xf 2) x_int (fun _ _ => rfl))) xc_nil))))))
      ss_nil) ss_nil)
      (ss_cons (s_if (t_cmp (o_eq hr.units) (x_ix (o_ix (hu_of hr)) (xf 2) x_int (fun _ _ => rfl)) x_str) (ss_cons (sown 5 sc__law_due.nd (x_callN (ts := [none, none]) G__law_unlike_rows (hr.mono (by decide)) (by rfl) T.m__law_unlike_rows T.k__law_unlike_rows T.b__law_unlike_rows (xc_plain (xf 4) (xc_plain (x_ix (o_ix (hu_of hr)) (xf 2) x_int (fun _ _ => rfl)) xc_nil))))
      ss_nil) ss_nil)
      (ss_cons (s_if (t_cmp (o_eq hr.units) (x_ix (o_ix (hu_of hr)) (xf 2) x_int (fun _ _ => rfl)) x_str) (ss_cons (s_asg (x_call (ts := [none, none, none]) G__law_counts_rows (hr.mono (by decide)) (by rfl) T.m__law_counts_rows T.k__law_counts_rows T.b__law_counts_rows (xc_plain (xf 4) (xc_plain (x_ix (o_ix (hu_of hr)) (xf 2) x_int (fun _ _ => rfl)) (xc_plain (x_ix (o_ix (hu_of hr)) (xf 2) x_int (fun _ _ => rfl)) xc_nil)))) (gn 5 sc__law_due.nd))
      ss_nil) ss_nil)
      (ss_cons (s_if (t_cmp (o_eq hr.units) (x_ix (o_ix (hu_of hr)) (xf 2) x_int (fun _ _ => rfl)) x_str) (ss_cons (sown 5 sc__law_due.nd (x_callN (ts := [none, none]) G__law_works_rows (hr.mono (by decide)) (by rfl) T.m__law_works_rows T.k__law_works_rows T.b__law_works_rows (xc_plain (xf 4) (xc_plain (xf 2) xc_nil))))
      ss_nil) ss_nil)
      (ss_cons (sret (x_callTy c_tuple (by rfl) T.z_tuple (by decide +kernel) (xa_cons (x_if (t_cmp o_gt (xf 3) x_int) (x_call (ts := [none, none]) G__law_further (hr.mono (by decide)) (by rfl) T.m__law_further T.k__law_further T.b__law_further (xc_plain (xf 5) (xc_plain (x_tup (FrzT.pe_tupF (xa_cons x_str (xa_cons (xf 1) xa_nil)))) xc_nil))) (xv 5)) xa_nil)))
      ss_nil))))))))
def m_law : MS :=
  (mSeq (mAsg (mCall f__law_pool [none] (mCons (mFrz 0) mNil)) (gOwn 1))
  (mSeq (mAsg (mCall f__law_names [some 1] (mConsIo 1 mNil)) (gSet 2))
  (mSeq (mAsg (mApp gLstD mNil) (gOwn 3))
  (mSeq (mAsg (mApp gLstD mNil) (gOwn 4))
  (mSeq (mAsg (mBin gEq (mCall f__law_draw [some 1, none] (mConsIo 1 (mCons (mC (.int 8)) mNil))) (mC (.int 0))) (gSet 5))
  (mSeq (mFor (mRange gRange1 (mCons (mC (.int 4)) mNil)) (gSet 6) (mSeq (mAsg (mIf (mAndT (mB (mFrz 5)) (mB (mBin gEq (mFrz 6) (mC (.int 0))))) (mC (.int 12)) (mBin gAdd (mC (.int 1)) (mCall f__law_draw [some 1, none] (mConsIo 1 (mCons (mC (.int 5)) mNil))))) (gSet 7))
  (mSeq (mAsg (mCall f__law_unknowns [some 1, none, none, none] (mConsIo 1 (mCons (mSl (mFrz 2) (mP (mC (.int 1))) mNoP) (mCons (mFrz 7) (mCons (mIf (mAndT (mB (mFrz 5)) (mB (mBin gEq (mFrz 6) (mC (.int 0))))) (mC (.int 12)) (mC (.int 5))) mNil))))) (gSet 8))
  (mSeq (mAsg (mCall f__law_sums [some 1, none, none, none] (mConsIo 1 (mCons (mUn gDictQ (mFrz 8)) (mCons (mSl (mFrz 2) (mP (mC (.int 1))) (mP (mBin gAdd (mFrz 7) (mC (.int 1))))) (mCons (mAndV (mFrz 5) (mBin gEq (mFrz 6) (mC (.int 0)))) mNil))))) (gSet 9))
  (mSeq (mAsg (mBin gIx (mApp gLstD (mCons (mC (.int 0)) (mCons (mC (.int 0)) (mCons (mC (.int 0)) (mCons (mC (.int 100)) mNil))))) (mCall f__law_draw [some 1, none] (mConsIo 1 (mCons (mC (.int 4)) mNil)))) (gSet 10))
  (mSeq (mDrop (mMut 4 gApp (mCall f__law_due [none, none, none, none] (mCons (mFrz 8) (mCons (mBin gIx (mFrz 2) (mC (.int 0))) (mCons (mFrz 9) (mCons (mFrz 10) mNil)))))))
  (mSeq (mDrop (mMut 3 gApp (mCall f__law_model [some 1, none, none, none, none, none] (mConsIo 1 (mCons (mFrz 8) (mCons (mBin gIx (mFrz 2) (mC (.int 0))) (mCons (mFrz 9) (mCons (mFrz 10) (mCons (mCall f__law_draw [some 1, none] (mConsIo 1 (mCons (mC (.int 3)) mNil))) mNil)))))))))
  mNext)))))))
  (mSeq (mFor (mItems2 (mApp gLstD (mCons (mC (.int 0)) (mCons (mC (.int 1)) (mCons (mC (.int 2)) (mCons (mC (.int 3)) (mCons (mC (.int 0)) mNil))))))) (gSet 11) (mSeq (mAsg (mCallK f_telling_rows ga_telling_rows_s_model (mCons (mBin gIx (mFrz 2) (mC (.int 0))) (mCons (mBin gIx (mVar 3) (mFrz 11)) mNil))) (gSet 12))
  (mSeq (mIfS (mOrT (mB (mBin gNe (mFrz 12) (mBin gIx (mVar 4) (mFrz 11)))) (mNotT (mB (mCall (f__law_so 8) [none, none] (mCons (mFrz 12) (mCons (mBin gIx (mVar 4) (mFrz 11)) mNil)))))) (mSeq (mRet (mC (.bool false)))
  mNext) mNext)
  mNext)))
  (mSeq (mRet (mC (.bool true)))
  mNext))))))))
def f_law : List D → Option (D × List D) := runD N_law.length [] m_law
theorem ok_law {P : Program} {w : World} {K : PySem.W.Frag} {mg : Str → Option Value} {base : Heap} {a : Ad} {d : Fd} (T : Txt w K mg base a d) : FnOk P w K mg base CX0 10 a.a_law d.d_law P_law (spD ⟨K, w⟩ a.tabs [] P_law.length f_law) := by
  have G__law_so := ok__law_so (P := P) (w := w) T 8
  have G_telling_rows := ok_telling_rows (P := P) (w := w) T
  have G__law_model := ok__law_model (P := P) (w := w) T
  have G__law_draw := ok__law_draw (P := P) (w := w) T
  have G__law_due := ok__law_due (P := P) (w := w) T
  have G__law_sums := ok__law_sums (P := P) (w := w) T
  have G__law_unknowns := ok__law_unknowns (P := P) (w := w) T
  have G__law_names := ok__law_names (P := P) (w := w) T
  have G__law_pool := ok__law_pool (P := P) (w := w) T
  refine okD (k := 9) T.F_law sc_law fun A outer s H E S A0 hr => ?_
  exact (ss_cons (sown 1 sc_law.nd (x_callN (ts := [none]) G__law_pool (hr.mono (by decide)) (by rfl) T.m__law_pool T.k__law_pool T.b__law_pool (xc_plain (xf 0) xc_nil)))
      (ss_cons (s_asg (x_call (ts := [some 1]) G__law_names (hr.mono (by decide)) (by rfl) T.m__law_names T.k__law_names T.b__law_names (xcio 1 xc_nil)) (gn 2 sc_law.nd))
      (ss_cons (sown 3 sc_law.nd (x_lstN (pe_lst xa_nil)))
      (ss_cons (sown 4 sc_law.nd (x_lstN (pe_lst xa_nil)))
      (ss_cons (s_asg (x_cmp (o_eq hr.units) (x_call (ts := [some 1, none]) G__law_draw (hr.mono (by decide)) (by rfl) T.m__law_draw T.k__law_draw T.b__law_draw (xcio 1 (xc_plain x_int xc_nil))) x_int) (gn 5 sc_law.nd))
      (ss_cons (s_for PassesOwn.never rfl (w_range1 (by rfl) T.z_range (xa_cons x_int xa_nil)) (fun _ => (gn 6 sc_law.nd)) (fun _ => (ss_cons (s_asg (x_if (PW.pt (t_and (t_val (xf 5)) (t_and1 (t_cmp (o_eq hr.units) (xf 6) x_int)))) x_int (x_bin o_add x_int (x_call (ts := [some 1, none]) G__law_draw (hr.mono (by decide)) (by rfl) T.m__law_draw T.k__law_draw T.b__law_draw (xcio 1 (xc_plain x_int xc_nil))))) (gn 7 sc_law.nd))
      (ss_cons (s_asg (x_call (ts := [some 1, none, none, none]) G__law_unknowns (hr.mono (by decide)) (by rfl) T.m__law_unknowns T.k__law_unknowns T.b__law_unknowns (xcio 1 (xc_plain (x_slice (xf 2) (xo_some x_int) xo_none) (xc_plain (xf 7) (xc_plain (x_if (PW.pt (t_and (t_val (xf 5)) (t_and1 (t_cmp (o_eq hr.units) (xf 6) x_int)))) x_int x_int) xc_nil))))) (gn 8 sc_law.nd))
      (ss_cons (s_asg (x_call (ts := [some 1, none, none, none]) G__law_sums (hr.mono (by decide)) (by rfl) T.m__law_sums T.k__law_sums T.b__law_sums (xcio 1 (xc_plain (x_new (x_dictQ rfl (by rfl) T.z_dict (xf 8))) (xc_plain (x_slice (xf 2) (xo_some x_int) (xo_some (x_bin o_add (xf 7) x_int))) (xc_plain (x_and (xf 5) (x_one (x_cmp (o_eq hr.units) (xf 6) x_int))) xc_nil))))) (gn 9 sc_law.nd))
      (ss_cons (s_asg (x_ix (o_ix (hu_of hr)) (x_lst (pe_lst (xa_cons x_int (xa_cons x_int (xa_cons x_int (xa_cons x_int xa_nil)))))) (x_call (ts := [some 1, none]) G__law_draw (hr.mono (by decide)) (by rfl) T.m__law_draw T.k__law_draw T.b__law_draw (xcio 1 (xc_plain x_int xc_nil))) (fun _ _ => rfl)) (gn 10 sc_law.nd))
      (ss_cons (s_expr (x_append (i := 4) rfl (by first | exact Or.inl rfl | exact Or.inr (Or.inl rfl) | exact Or.inr (Or.inr rfl)) (x_call (ts := [none, none, none, none]) G__law_due (hr.mono (by decide)) (by rfl) T.m__law_due T.k__law_due T.b__law_due (xc_plain (xf 8) (xc_plain (x_ix (o_ix (hu_of hr)) (xf 2) x_int (fun _ _ => rfl)) (xc_plain (xf 9) (xc_plain (xf 10) xc_nil)))))))
      (ss_cons (s_expr (x_append (i := 3) rfl (by first | exact Or.inl rfl | exact Or.inr (Or.inl rfl) | exact Or.inr (Or.inr rfl)) (x_call (ts := [some 1, none, none, none, none, none]) G__law_model (hr.mono (by decide)) (by rfl) T.m__law_model T.k__law_model T.b__law_model (xcio 1 (xc_plain (xf 8) (xc_plain (x_ix (o_ix (hu_of hr)) (xf 2) x_int (fun _ _ => rfl)) (xc_plain (xf 9) (xc_plain (xf 10) (xc_plain (x_call (ts := [some 1, none]) G__law_draw (hr.mono (by decide)) (by rfl) T.m__law_draw T.k__law_draw T.b__law_draw (xcio 1 (xc_plain x_int xc_nil))) xc_nil)))))))))
      ss_nil))))))))
      (ss_cons (s_for PassesOwn.never rfl (w_seq2 (x_lst (pe_lst (xa_cons x_int (xa_cons x_int (xa_cons x_int (xa_cons x_int (xa_cons x_int xa_nil)))))))) (fun _ => (gn 11 sc_law.nd)) (fun _ => (ss_cons (s_asg (x_callK0 G_telling_rows (hr.mono (by decide)) (by rfl) T.m_telling_rows T.k_telling_rows T.kb_telling_rows_s_model (k_cons (x_ix (o_ix (hu_of hr)) (xf 2) x_int (fun _ _ => rfl)) (k_cons (x_ix (o_ix (hu_of hr)) (xv 3) (xf 11) (fun _ _ => rfl)) k_nil)) gaR_telling_rows_s_model (mlen_ga (mlen_cons (mlen_cons mlen_nil)) gaL_telling_rows_s_model) runD_len) (gn 12 sc_law.nd))
      (ss_cons (s_if (PW.pt (t_or (t_cmp (o_ne hr.units) (xf 12) (x_ix (o_ix (hu_of hr)) (xv 4) (xf 11) (fun _ _ => rfl))) (t_or1 (t_not (t_val (x_call (ts := [none, none]) G__law_so (hr.mono (by decide)) (by rfl) T.m__law_so T.k__law_so T.b__law_so (xc_plain (xf 12) (xc_plain (x_ix (o_ix (hu_of hr)) (xv 4) (xf 11) (fun _ _ => rfl)) xc_nil)))))))) (ss_cons (sret x_bl)
      ss_nil) ss_nil)
      ss_nil))))
      (ss_cons (sret x_bl)
      ss_nil))))))))
end K17W
set_option maxRecDepth 100000
set_option maxHeartbeats 4000000
namespace K17W
open PySem PySem.Spec PyProof.Rows L2 GxR GenX OwnK PD
local macro_rules | `(tactic| tb_rel) => `(tactic| simp -dsimp only [tb5, List.getElem?_cons_zero, List.getElem?_cons_succ, List.set_cons_zero, List.set_cons_succ, List.length_cons, List.length_nil, List.cons_append, List.nil_append, List.replicate, List.map_cons, List.map_nil, Nat.reduceAdd, Nat.reduceSub, Nat.reduceLT, Nat.reduceLeDiff, ↓reduceIte, List.mem_cons, List.not_mem_nil, forall_const, reduceCtorEq, ne_eq])
local macro_rules | `(tactic| allgen_close2_more) => `(tactic| first | omega | (simp only [List.length_append, List.length_cons, List.length_nil, List.length_map, List.length_range] at * <;> omega) | (simp only [len_app, len_one, len_empty] at * <;> omega))
local macro_rules | `(tactic| tb_start) => `(tactic| first
  | (with_reducible refine w_mul ?hh ?_; (case hh => first | omega | (left; omega) | (right; omega) | (left; allgen_close2_more) | (right; allgen_close2_more)))
  | (with_reducible refine w_mod ?hh ?_; (case hh => allgen_close2_more); intro _ _)
  | (with_reducible refine w_div ?hh ?hj ?_; (case hh => allgen_close2_more); (case hj => allgen_close2_more))
  | (with_reducible refine wr1 ?hh ?hj ?_; (case hh => allgen_close2_more); (case hj => allgen_close2_more))
  | (with_reducible refine W_atM ?hh ?hj ?_; (case hh => omega); (case hj => allgen_close2_more); intro _ _)
  | (with_reducible refine W_atL ?hh ?hj ?_; (case hh => omega); (case hj => allgen_close2_more); intro _ _)
  | (with_reducible refine w_putM ?hh ?hj ?_; (case hh => omega); (case hj => allgen_close2_more))
  | (with_reducible refine w_app ?hh ?_; (case hh => allgen_close2_more))
  | (with_reducible refine w_addS ?hh ?_; (case hh => allgen_close2_more))
  | (with_reducible refine w_slS ?hh ?_; (case hh => allgen_close2_more))
  | (with_reducible refine w_addL ?hh ?_; (case hh => allgen_close2_more))
  | (with_reducible refine w_addT ?hh ?_; (case hh => allgen_close2_more))
  | (with_reducible refine w_gLst ?hh ?_; (case hh => first | (simp; done) | allgen_close2_more))
  | (with_reducible refine w_gTup ?hh ?_; (case hh => first | (simp; done) | allgen_close2_more))
  | (with_reducible refine w_eq (a := ?aa) ?hh ?_; (case hh => with_reducible assumption))
  | (with_reducible refine w_eqS true ?hh ?_; (case hh => decide +kernel))
  | (with_reducible refine w_eqS false ?hh ?_; (case hh => decide +kernel))
  | (with_reducible refine w_inLc true ?hh ?_; (case hh => decide +kernel))
  | (with_reducible refine w_inLc false ?hh ?_; (case hh => decide +kernel))
  | (with_reducible refine w_inTc true ?hh ?_; (case hh => decide +kernel))
  | (with_reducible refine w_inTc false ?hh ?_; (case hh => decide +kernel))
  | (with_reducible refine w_lookT ?hh ?_; (case hh => decide +kernel))
  | (with_reducible refine w_lookF ?hh ?_; (case hh => decide +kernel))
  | (with_reducible refine w_lenSet ?hh ?_; (case hh => allgen_close2_more))
  | (with_reducible refine w_mulI ?hh ?_; (case hh => first | omega | (left; omega) | (right; omega) | (left; allgen_close2_more) | (right; allgen_close2_more)))
  | (with_reducible refine w_ext ?hh ?_; (case hh => allgen_close2_more))
  | (with_reducible refine w_addLN ?hh ?_; (case hh => allgen_close2_more))
  | with_reducible refine w_sorted2 ?_
  | with_reducible refine w_lt2T ?_
  | with_reducible refine w_neB ?_
  | with_reducible refine w_neNilI ?_
  | with_reducible refine w_sum2L ?_
  | with_reducible refine w_sum2T ?_
  | (with_reducible refine w_last ?hh ?_; (case hh => allgen_close2_more); intro _ _)
  | with_reducible refine w_tcount ?_
  | with_reducible refine w_sum ?_
  | with_reducible refine w_sorted ?_
  | with_reducible refine bcs_mk ?_ ?_
  | allgen_close_more)
local macro_rules | `(tactic| top_reprB) => `(tactic| repeat' (first | tb_rel | tb_start | intro _ | (with_reducible refine And.intro ?_ ?_)))
section
def Sd (d : D) : Prop := ∃ (a b c : Int) (cs : List Int), 0 ≤ a ∧ 0 ≤ c ∧ cs.length ≤ 63 ∧ d = .list ((a :: b :: c :: cs).map .int)
theorem pool_w {ns : List Int} (h : ns.length ≤ 63) {Q : D → List D → Prop} (q : ∀ s, Sd s → Q s [.list (ns.map .int)]) : PD.Wq (f__law_pool [.list (ns.map .int)]) Q := by
  unfold f__law_pool m__law_pool
  top_reprB
  exact q _ ⟨0, 7, 3, ns, by decide, by decide, h, rfl⟩
theorem draw_w {s : D} {m : Int} (hs : Sd s) (h0 : 0 < m) (h1 : m < 1073741824) {Q : D → List D → Prop} (q : ∀ (r : Int) (s' : D), Sd s' → 0 ≤ r → r < m → Q (.int r) [s', .int m]) : PD.Wq (f__law_draw [s, .int m]) Q := by
  obtain ⟨a, b, c, cs, ha, hc, hl, rfl⟩ := hs
  unfold f__law_draw m__law_draw
  top_reprB
  · have hl2 : c < ((a :: b :: c :: cs).length : Int) := by
      rename_i h
      simpa using h
    show PD.Wp (atI ((a :: b :: c :: cs).map PyData.int) c) _
    refine W_atM (by omega) (by omega) fun x hx => ?_
    top_reprB
    all_goals first
      | exact q _ _ ⟨_, _, _, cs, Int.fdiv_nonneg (by omega) (by omega), by omega, hl, rfl⟩ (by assumption) (by assumption)
      | exact q _ _ ⟨_, _, _, cs, by omega, by omega, hl, rfl⟩ (by assumption) (by assumption)
  all_goals first
    | exact q _ _ ⟨_, _, _, cs, Int.fdiv_nonneg (by omega) (by omega), by omega, hl, rfl⟩ (by assumption) (by assumption)
    | exact q _ _ ⟨_, _, _, cs, by omega, by omega, hl, rfl⟩ (by assumption) (by assumption)
end
section
local macro_rules | `(tactic| allgen_close_more) => `(tactic| (with_reducible refine draw_w ?h1 ?h2 ?h3 ?_; (case h1 => assumption); (case h2 => allgen_close2_more); (case h3 => allgen_close2_more); intro _ _ _ _ _))
theorem cut_none {α : Type} (f : α → D) (xs : List α) (n : Int) (h0 : 0 ≤ n) : PD.cutD (xs.map f) none (some n) = (xs.take n.toNat).map f := by
  obtain ⟨k, rfl⟩ := Int.eq_ofNat_of_zero_le h0
  unfold PD.cutD
  rw [HT.sIx_nat, HT.sIx_none, List.drop_zero, Nat.sub_zero, List.map_take, Int.toNat_natCast, List.length_map, List.take_eq_take_iff]
  simp
theorem cut_from {α : Type} (f : α → D) (xs : List α) (n : Int) (h0 : 0 ≤ n) : PD.cutD (xs.map f) (some n) none = (xs.drop n.toNat).map f := by
  obtain ⟨k, rfl⟩ := Int.eq_ofNat_of_zero_le h0
  unfold PD.cutD
  rw [HT.sIx_nat, HT.sIx_none, List.length_map, Int.toNat_natCast, ← List.map_drop, List.take_of_length_le (by simp)]
  by_cases h : k ≤ xs.length
  · rw [Nat.min_eq_left h]
  · rw [Nat.min_eq_right (by omega), List.drop_of_length_le (by omega), List.drop_of_length_le (by omega)]
def L0 : List Str := ["x", "y", "z", "a", "b", "x1", "x10", "x2", "0", "9", ".", "a.b", "z.", "m", "n", "k.0", "w", "v", "u", "q", "p", "r", "s", "t", "c", "d", "e", "f", "abcdefghijklmnopqrstuvwx", "g"]
theorem names_w {s : D} (hs : Sd s) {Q : D → List D → Prop} (q : ∀ (ns : List Str) (s' : D), Sd s' → ns.Perm L0 → Q (.list (ns.map .str)) [s']) : PD.Wq (f__law_names [s]) Q := by
  unfold f__law_names m__law_names
  top_reprB
  rename_i r s1 g1 r0 r1
  show Wp (gAdd (.list (PD.cutD (L0.map PyData.str) (some r) none)) (.list (PD.cutD (L0.map PyData.str) none (some r)))) _
  rw [cut_from _ _ _ r0, cut_none _ _ _ r0]
  have hl : ((L0.drop r.toNat) ++ (L0.take r.toNat)).Perm L0 := List.perm_append_comm.trans (by rw [List.take_append_drop])
  have hle := hl.length_eq
  rw [List.length_append] at hle
  have h30 : L0.length = 30 := rfl
  refine w_addL (by rw [List.length_map, List.length_map]; omega) ?_
  rw [← List.map_append]
  generalize L0.drop r.toNat ++ L0.take r.toNat = ns at hl
  top_reprB
  rename_i r2 s2 g2 r20 r21
  refine W_atI (by omega) (by simpa using r21) fun d hd => ?_
  top_reprB
  obtain rfl | rfl : r2 = 0 ∨ r2 = 1 := by omega
  · cases hd
    exact q ns _ g2 hl
  · cases hd
    rw [← List.map_reverse]
    exact q ns.reverse _ g2 ((List.reverse_perm ns).trans hl)
theorem draws_nd {ns : List Str} (h : ns.Perm L0) : ns.Nodup := h.nodup_iff.mpr (by decide +kernel)
theorem draws_ok {ns : List Str} (h : ns.Perm L0) {x : Str} (hx : x ∈ ns) : PyData.strOk x = true ∧ x ≠ "so.0" ∧ x ≠ "no.0" ∧ x ≠ "no.1" := by
  have : ∀ x ∈ L0, PyData.strOk x = true ∧ x ≠ "so.0" ∧ x ≠ "no.0" ∧ x ≠ "no.1" := by decide +kernel
  exact this x (h.mem_iff.mp hx)
def Vs (v : Int) : Prop := (-3 ≤ v ∧ v ≤ 35) ∨ (∃ u, v = u * 13 ∧ -3 ≤ u ∧ u ≤ 11) ∨ v = 200 ∨ v = -200
structure DomOk (vs : List Int) : Prop where
  ne : 0 < vs.length
  few : vs.length ≤ 12
  up : vs.Pairwise (· < ·)
  vs : ∀ v ∈ vs, Vs v
theorem domain_w {s : D} {m : Int} (hs : Sd s) (h0 : 0 < m) (h1 : m ≤ 12) {Q : D → List D → Prop} (q : ∀ (vs : List Int) (s' : D), Sd s' → DomOk vs → Q (.tuple (vs.map .int)) [s', .int m]) : PD.Wq (f__law_domain [s, .int m]) Q := by
  unfold f__law_domain m__law_domain
  rw [q_runD]
  refine seq_cut (fun ρ => ∃ (s1 : D) (z : Int), Sd s1 ∧ 0 < z ∧ z ≤ m ∧ ρ = [some (true, s1), some (false, .int m), some (false, .int z), none, none, none, none]) ?_ fun ρ ⟨s1, z, g1, z0, z1, e1⟩ => ?_
  · top_reprB
    exact ⟨_, _, by assumption, by omega, by omega, rfl⟩
  subst e1
  refine seq_cut (fun ρ => ∃ (s1 : D) (w : Int), Sd s1 ∧ (w = 1 ∨ (w = 13 ∧ z < 5)) ∧ ρ = [some (true, s1), some (false, .int m), some (false, .int z), some (false, .int w), none, none, none]) ?_ fun ρ ⟨s2, w, g2, w0, e1⟩ => ?_
  · top_reprB
    · refine W_atI (by omega) (by simpa using by assumption) fun d hd => ?_
      top_reprB
      have : d = .int 1 ∨ d = .int 13 := by
        have := List.mem_of_getElem? hd
        simp only [List.mem_cons, List.not_mem_nil, or_false] at this
        rcases this with rfl | rfl | rfl | rfl <;> first | exact .inl rfl | exact .inr rfl
      rcases this with rfl | rfl
      · exact ⟨_, _, by assumption, .inl rfl, rfl⟩
      · exact ⟨_, _, by assumption, .inr ⟨rfl, by omega⟩, rfl⟩
    · exact ⟨_, _, by assumption, .inl rfl, rfl⟩
  subst e1
  top_reprB
  · refine W_atI (by omega) (by simpa using by assumption) fun d hd => ?_
    top_reprB
    have := List.mem_of_getElem? hd
    simp only [List.mem_cons, List.not_mem_nil, or_false] at this
    rcases this with rfl | rfl | rfl
    · exact q [-200, 200] _ (by assumption) ⟨by decide, by decide, by decide, fun v hv => by simp only [List.mem_cons, List.not_mem_nil, or_false] at hv; unfold Vs; first | (exact .inl ⟨by omega, by omega⟩) | (exact .inr (.inr (by omega))) | (rcases hv with rfl | rfl <;> first | (exact .inl ⟨by omega, by omega⟩) | (exact .inr (.inr (by omega))))⟩
    · exact q [-200] _ (by assumption) ⟨by decide, by decide, by decide, fun v hv => by simp only [List.mem_cons, List.not_mem_nil, or_false] at hv; unfold Vs; first | (exact .inl ⟨by omega, by omega⟩) | (exact .inr (.inr (by omega))) | (rcases hv with rfl | rfl <;> first | (exact .inl ⟨by omega, by omega⟩) | (exact .inr (.inr (by omega))))⟩
    · exact q [0, 200] _ (by assumption) ⟨by decide, by decide, by decide, fun v hv => by simp only [List.mem_cons, List.not_mem_nil, or_false] at hv; unfold Vs; first | (exact .inl ⟨by omega, by omega⟩) | (exact .inr (.inr (by omega))) | (rcases hv with rfl | rfl <;> first | (exact .inl ⟨by omega, by omega⟩) | (exact .inr (.inr (by omega))))⟩
  · rename_i v s3 g3 v0 v1 r3 s4 g4 _ _ _
    refine W_forR (fun k ρ => ∃ (s' : D) (vs : List Int) (u : Int) (j : Option (Bool × D)), ρ = [some (true, s'), some (false, .int m), some (false, .int z), some (false, .int w), some (false, .int u), some (false, .tuple (vs.map .int)), j] ∧ Sd s' ∧ vs.length = k ∧ vs.Pairwise (· < ·) ∧ (∀ x ∈ vs, x < u * w ∧ Vs x) ∧ -3 + k ≤ u ∧ u ≤ 2 + 3 * k) ⟨s4, [], _, _, rfl, g4, rfl, List.Pairwise.nil, by simp, by omega, by omega⟩ (fun k ρ hk ⟨s', vs, u, j, e1, h2, h3, h4, h5, h6, h7⟩ => ?_) fun ρ ⟨s', vs, u, j, e1, h2, h3, h4, h5, h6, h7⟩ => ?_
    · have hk2 : k < 12 ∧ (k : Int) < z := by omega
      subst e1
      top_reprB
      rename_i r5 s5 g5 r50 r51
      refine W_atI (by omega) (by simpa using by assumption) fun d hd => ?_
      have hd := List.mem_of_getElem? hd
      simp only [List.mem_cons, List.not_mem_nil, or_false] at hd
      obtain ⟨i, rfl, hi1, hi2⟩ : ∃ i, d = .int i ∧ 1 ≤ i ∧ i ≤ 3 := by
        rcases hd with rfl | rfl | rfl | rfl | rfl <;> exact ⟨_, rfl, by decide, by decide⟩
      top_reprB
      refine ⟨_, vs ++ [u * w], _, _, by rw [List.map_append]; rfl, g5, by simp [h3], List.pairwise_append.mpr ⟨h4, List.pairwise_singleton .., fun a ha b hb => ?_⟩, fun x hx => ?_, by omega, by omega⟩
      · rw [List.mem_singleton.mp hb]
        exact (h5 a ha).1
      · have hw : u * w < (u + i) * w := by
          rcases w0 with rfl | ⟨rfl, _⟩ <;> omega
        rcases List.mem_append.mp hx with hx | hx
        · exact ⟨by have := (h5 x hx).1; omega, (h5 x hx).2⟩
        · rw [List.mem_singleton.mp hx]
          refine ⟨hw, ?_⟩
          rcases w0 with rfl | ⟨rfl, _⟩
          · exact .inl ⟨by omega, by omega⟩
          · exact .inr (.inl ⟨u, rfl, by omega, by omega⟩)
    · subst e1
      top_reprB
      exact q vs _ h2 ⟨by omega, by omega, h4, fun x hx => (h5 x hx).2⟩
abbrev Ux := List (Str × List Int)
def nms (us : Ux) : List Str := us.map (·.1)
def eI (ns : List Int) : D := .tuple (ns.map .int)
def eDm (d : Str × List Int) : D := .tuple [.str d.1, eI d.2]
def eUs (us : Ux) : D := .dict (kvM .str eI us)
structure Xs (us : Ux) : Prop where
  dom : ∀ d ∈ us, DomOk d.2
  nd : (nms us).Nodup
  len : us.length ≤ 12
  ok : ∀ x ∈ nms us, PyData.strOk x = true
local macro_rules | `(tactic| allgen_close_more) => `(tactic| first
  | (with_reducible refine draw_w ?h1 ?h2 ?h3 ?_; (case h1 => assumption); (case h2 => allgen_close2_more); (case h3 => allgen_close2_more); intro _ _ _ _ _)
  | (with_reducible refine domain_w ?h1 ?h2 ?h3 ?_; (case h1 => assumption); (case h2 => omega); (case h3 => omega); intro _ _ _ _))
theorem unknowns_w {s : D} {ns : List Str} {k m : Int} (hs : Sd s) (h0 : 0 < m) (h1 : m ≤ 12) (h2 : 0 ≤ k) (h3 : k ≤ ns.length) (h4 : k ≤ 12) (hnd : ns.Nodup) (hok : ∀ x ∈ ns, PyData.strOk x = true) {Q : D → List D → Prop}
    (q : ∀ (us : Ux) (s' : D), Sd s' → Xs us → nms us = ns.take k.toNat → Q (.tuple (us.map eDm)) [s', .list (ns.map .str), .int k, .int m]) : PD.Wq (f__law_unknowns [s, .list (ns.map .str), .int k, .int m]) Q := by
  unfold f__law_unknowns m__law_unknowns
  top_reprB
  refine q_lcK (fun k' acc ρ => ∃ (s' : D) (us : Ux) (j : Option (Bool × D)), acc = us.map eDm ∧ ρ = [some (true, s'), some (false, .list (ns.map .str)), some (false, .int k), some (false, .int m), j] ∧ Sd s' ∧ nms us = ns.take k' ∧ (∀ d ∈ us, DomOk d.2)) (by rw [rangeD_len]; omega) ⟨s, [], _, rfl, rfl, hs, rfl, by simp⟩ (fun k' d acc ρ hd ⟨s', us, j, e0, e1, g1, g2, g3⟩ => ?_) fun acc ρ hk ⟨s', us, j, e0, e1, g1, g2, g3⟩ => ?_
  · subst e0 e1
    have hk : k' < k.toNat := by
      have := (List.getElem?_eq_some_iff.mp hd).1
      rwa [rangeD_len] at this
    rw [rangeD_get hk] at hd
    cases hd
    top_reprB
    rename_i x hx vs s2 d1 d2
    refine ⟨s2, us ++ [(x, vs)], _, by rw [List.map_append]; rfl, rfl, d1, ?_, fun d hd => ?_⟩
    · have e : ((0 : Int) + (k' : Nat)).toNat = k' := by omega
      rw [e] at hx
      unfold nms at *
      rw [List.map_append, g2, List.take_succ, hx]
      rfl
    · rcases List.mem_append.mp hd with hd | hd
      · exact g3 d hd
      · rw [List.mem_singleton.mp hd]; exact d2
  · subst e0 e1
    rw [rangeD_len] at g2
    top_reprB
    refine q us s' g1 ⟨g3, ?_, ?_, fun x hx => ?_⟩ (by simpa using g2)
    · rw [g2]; exact hnd.sublist (List.take_sublist _ _)
    · have := congrArg List.length g2
      rw [List.length_take] at this
      unfold nms at this
      rw [List.length_map] at this
      omega
    · rw [g2] at hx; exact hok x (List.mem_of_mem_take hx)
theorem taken_w {s : D} {ns : List Str} {k : Int} (hs : Sd s) (h2 : 0 ≤ k) (h3 : k ≤ ns.length) (h4 : ns.length < 1000) {Q : D → List D → Prop}
    (q : ∀ (xs : List Str) (s' : D), Sd s' → (∀ x ∈ xs, x ∈ ns) → xs.length = k.toNat → Q (.tuple (xs.map .str)) [s', .list (ns.map .str), .int k]) : PD.Wq (f__law_taken [s, .list (ns.map .str), .int k]) Q := by
  unfold f__law_taken m__law_taken
  top_reprB
  refine W_forR (fun k' ρ => ∃ (s' : D) (left xs : List Str) (j : Option (Bool × D)), ρ = [some (true, s'), some (false, .list (ns.map .str)), some (false, .int k), some (true, .list (left.map .str)), some (false, .tuple (xs.map .str)), j] ∧ Sd s' ∧ (xs ++ left).Perm ns ∧ xs.length = k') ⟨s, ns, [], _, rfl, hs, List.Perm.refl _, rfl⟩ (fun k' ρ hk ⟨s', left, xs, j, e1, g1, g2, g3⟩ => ?_) fun ρ ⟨s', left, xs, j, e1, g1, g2, g3⟩ => ?_
  · subst e1
    have hlen := g2.length_eq
    rw [List.length_append] at hlen
    have hl : 0 < left.length := by omega
    top_reprB
    rename_i r s2 d1 d2 d3
    refine w_popM d2 (by simpa using d3) (by omega) fun x hx => ?_
    top_reprB
    exact ⟨s2, left.eraseIdx r.toNat, xs ++ [x], _, by rw [List.map_append]; rfl, d1, perm_erase g2 hx, by simp [g3]⟩
  · subst e1
    top_reprB
    exact q xs s' g1 (fun x hx => g2.mem_iff.mp (List.mem_append_left _ hx)) (by omega)
theorem value_w {s : D} {vs : List Int} (hs : Sd s) (hv : DomOk vs) {Q : D → List D → Prop} (q : ∀ (v : Int) (s' : D), Sd s' → -5 ≤ v ∧ v ≤ 5 ∨ v ∈ vs → Q (.int v) [s', eI vs]) : PD.Wq (f__law_value [s, eI vs]) Q := by
  have h1 := hv.ne
  have h2 := hv.few
  unfold f__law_value m__law_value
  unfold eI at *
  top_reprB
  · rename_i x hx
    exact q x _ (by assumption) (.inr (List.mem_of_getElem? hx))
  · exact q _ _ (by assumption) (.inl (by omega))
end
section
open PySem.W
structure Sg where
  sort : Str
  name : Str
  ns : List Int
deriving DecidableEq
def sgKey (s : Sg) : List Key := .inr s.sort :: .inr s.name :: kI s.ns
instance : KC Sg := ⟨sgKey, fun a b h => by
  obtain ⟨a1, a2, a3⟩ := a
  obtain ⟨b1, b2, b3⟩ := b
  have h : (Sum.inr a1 :: Sum.inr a2 :: kI a3 : List Key) = Sum.inr b1 :: Sum.inr b2 :: kI b3 := h
  injection h with h1 h
  injection h with h2 h
  rw [Sum.inr.inj h1, Sum.inr.inj h2, kI_inj h]⟩
def eSg (s : Sg) : D := .tuple (.str s.sort :: .str s.name :: s.ns.map .int)
theorem kc_sg (s : Sg) : kcD s = eSg s := by
  show PyData.tuple ((sgKey s).map kD) = _
  unfold sgKey eSg
  rw [List.map_cons, List.map_cons, kI_kD]; rfl
structure SgOk (s : Sg) : Prop where
  sort : PyData.strOk s.sort = true
  name : PyData.strOk s.name = true
  few : s.ns.length < 1000
theorem okM_sg {s : Sg} (h : SgOk s) : okM 1 (eSg s) := okM_tup fun d hd => by
  rcases List.mem_cons.mp hd with rfl | hd
  · exact okM_str 0 h.sort
  · rcases List.mem_cons.mp hd with rfl | hd
    · exact okM_str 0 h.name
    · exact okM_map (fun _ _ => okM_int 0 _) d hd
theorem cmp_strs {a b : Str} {xs ys : List D} (h : cmpL xs ys = true) : cmpL (.str a :: xs) (.str b :: ys) = true := by
  unfold cmpL
  split
  · exact h
  · rfl
theorem cmp_ints : ∀ xs ys : List Int, cmpL (xs.map .int) (ys.map .int) = true
  | [], _ => by simp [cmpL]
  | _ :: _, [] => by simp [cmpL]
  | x :: xs, y :: ys => by
    rw [List.map_cons, List.map_cons]
    unfold cmpL
    split
    · exact cmp_ints xs ys
    · rfl
theorem cmp_sg (s t : Sg) : cmpD (eSg s) (eSg t) = true := by
  show cmpL _ _ = true
  exact cmp_strs (cmp_strs (cmp_ints _ _))
theorem plain_ints (xs : List Int) : plainTs (xs.map .int) = true := by
  induction xs with
  | nil => rfl
  | cons x r ih => rw [List.map_cons]; simp [plainTs, plainT, ih]
theorem plain_sg (s : Sg) : plainT (eSg s) = true := by
  show plainTs _ = true
  simp [plainTs, plainT, plain_ints]
theorem eSg_inj {s t : Sg} (h : eSg s = eSg t) : s = t := by
  obtain ⟨a1, a2, a3⟩ := s
  obtain ⟨b1, b2, b3⟩ := t
  have h := PyData.tuple.inj h
  injection h with h1 h
  injection h with h2 h
  have h3 : a3 = b3 := List.map_inj_right (fun a b e => PyData.int.inj e) |>.mp h
  have e1 : a1 = b1 := PyData.str.inj h1
  have e2 : a2 = b2 := PyData.str.inj h2
  rw [e1, e2, h3]
theorem toks_sg {s t : Sg} {r r' : List (Int ⊕ List Nat)} (h : keyToks (eSg s) ++ r = keyToks (eSg t) ++ r') : s = t ∧ r = r' := by
  obtain ⟨h1, h2⟩ := toks_inj _ _ r r' (cmp_sg s t) (plain_sg s) (plain_sg t) h
  exact ⟨eSg_inj h1, h2⟩
abbrev Pr := Sg × Bool × Int
def eSd (s : Sg) (b : Bool) : D := .tuple [eSg s, .bool b]
def ePr (p : Pr) : D := .tuple [eSd p.1 p.2.1, .int p.2.2]
theorem toks_pr {p q : Pr} (h : keyToks (ePr p) = keyToks (ePr q)) : p = q := by
  obtain ⟨s, b, c⟩ := p
  obtain ⟨t, b', c'⟩ := q
  simp only [ePr, eSd, keyToks, keyToksAll, List.cons_append, List.nil_append, List.cons.injEq, List.append_assoc, true_and] at h
  obtain ⟨h1, h2⟩ := toks_sg h
  simp only [List.cons.injEq, Sum.inl.injEq, true_and, and_true] at h2
  rw [h1, h2.2]
  have : b = b' := by
    have := h2.1
    cases b <;> cases b' <;> simp at this <;> rfl
  rw [this]
theorem sortD_inj {a b : List D} (p : a.Perm b) (inj : ∀ x ∈ a, ∀ y ∈ a, keyToks x = keyToks y → x = y) : sortD a = sortD b := by
  have T := PySem.W.sortLe_total (listOrd itemOrd) false fun b : D => PySem.W.keyToks b
  have hs : ∀ l : List D, (sortD l).Pairwise fun a b => PySem.W.dataLe false id a b = true := fun l => List.pairwise_mergeSort T.trans (fun a b => by rw [Bool.or_eq_true]; exact T.total a b) l
  have pa : (sortD a).Perm a := List.mergeSort_perm _ _
  have pb : (sortD b).Perm b := List.mergeSort_perm _ _
  refine List.Perm.eq_of_pairwise (fun x y hx hy h1 h2 => ?_) (hs a) (hs b) ((pa.trans p).trans pb.symm)
  have mx := pa.mem_iff.mp hx
  have my := p.mem_iff.mpr (pb.mem_iff.mp hy)
  rw [dataLe_id] at h1 h2
  exact inj x mx y my ((listOrd itemOrd).total (keyToks x) (keyToks y) (by simpa [PySem.W.dataLt] using h2) (by simpa [PySem.W.dataLt] using h1))
theorem sorted_id {l : List D} (h : l.Pairwise fun a b => PySem.W.dataLe false id a b = true) : sortD l = l := List.mergeSort_of_pairwise h
end
section
open PySem.W
abbrev Wt := List (Sg × Int)
def iW (w : Wt) : List (Sg × D) := w.map fun p => (p.1, PyData.int p.2)
def tdW (w : Wt) : D := tdG (iW w)
def getW (w : Wt) (s : Sg) : Option Int := (w.find? fun p => decide (p.1 = s)).map (·.2)
def putW (w : Wt) (s : Sg) (c : Int) : Wt := if (getW w s).isSome then w.map (fun p => if p.1 = s then (p.1, c) else p) else w ++ [(s, c)]
theorem getG_W (w : Wt) (s : Sg) : getG (iW w) s = (getW w s).map .int := by
  unfold getG iW getW
  rw [List.find?_map, Option.map_map, Option.map_map]
  rfl
theorem putG_W (w : Wt) (s : Sg) (c : Int) : putG (iW w) s (.int c) = iW (putW w s c) := by
  unfold putG putW
  rw [getG_W]
  have e : ((getW w s).map PyData.int).isSome = (getW w s).isSome := by cases getW w s <;> rfl
  rw [e]
  split
  · unfold iW
    rw [List.map_map, List.map_map]
    refine List.map_congr_left fun p _ => ?_
    simp only [Function.comp]
    split <;> rfl
  · unfold iW
    rw [List.map_append]; rfl
theorem putW_len (w : Wt) (s : Sg) (c : Int) : (putW w s c).length ≤ w.length + 1 := by
  unfold putW
  split <;> simp
theorem getW_mem {w : Wt} {s : Sg} (h : s ∈ w.map (·.1)) : ∃ c, getW w s = some c := by
  obtain ⟨p, hp, e⟩ := List.mem_map.mp h
  unfold getW
  cases q : w.find? fun p => decide (p.1 = s) with
  | none => exact absurd (List.find?_eq_none.mp q p hp) (by simp [e])
  | some p => exact ⟨_, rfl⟩
theorem getW_none {w : Wt} {s : Sg} (h : (getW w s).isSome = false) : s ∉ w.map (·.1) := fun hm => by
  obtain ⟨c, e⟩ := getW_mem hm
  rw [e] at h; cases h
theorem putW_keys (w : Wt) (s : Sg) (c : Int) : (putW w s c).map (·.1) = if (getW w s).isSome then w.map (·.1) else w.map (·.1) ++ [s] := by
  unfold putW
  split
  · rw [List.map_map]
    refine List.map_congr_left fun p _ => ?_
    simp only [Function.comp]
    split <;> rfl
  · rw [List.map_append]; rfl
theorem putW_nd {w : Wt} (h : (w.map (·.1)).Nodup) (s : Sg) (c : Int) : ((putW w s c).map (·.1)).Nodup := by
  rw [putW_keys]
  split
  · exact h
  · rename_i q
    refine List.nodup_append.mpr ⟨h, List.Pairwise.cons (by simp) List.Pairwise.nil, fun a ha b hb e => ?_⟩
    rw [List.mem_singleton.mp hb] at e
    exact getW_none (by simpa using q) (e ▸ ha)
theorem putW_mem {w : Wt} {s t : Sg} {c : Int} (h : t ∈ (putW w s c).map (·.1)) : t ∈ w.map (·.1) ∨ t = s := by
  rw [putW_keys] at h
  split at h
  · exact .inl h
  · rcases List.mem_append.mp h with h | h
    · exact .inl h
    · exact .inr (List.mem_singleton.mp h)
variable {Q : D → Prop}
theorem w_putSg {w : Wt} {s : Sg} {c : Int} (h : w.length < 16777216) (q : Q (tdW (putW w s c))) : Wp (gPutT (tdW w) (eSg s) (.int c)) Q := by
  rw [← kc_sg]
  refine w_putG (by unfold iW; rw [List.length_map]; exact h) ?_
  rw [putG_W]; exact q
theorem w_ixSg {w : Wt} {s : Sg} {c : Int} (h : getW w s = some c) (q : Q (.int c)) : Wp (gIxT (tdW w) (eSg s)) Q := by
  rw [← kc_sg]
  exact w_ixG (by rw [getG_W, h]; rfl) q
def esW (w : Wt) : List (D × D) := (iW w).map eG
theorem tdQ_W {K : List (D × D) → Prop} {w : Wt} : tdQ K (tdW w) ↔ K (esW w) := tdQ_G
theorem w_keySg {s : Sg} {Q : List Key → Prop} (q : Q (sgKey s)) : Wp (keyT (eSg s)) Q := by
  rw [← kc_sg]
  exact w_keyT_G q
theorem dget_W (w : Wt) (s : Sg) : (dgetT (esW w) (sgKey s)).getD (.int 0) = .int ((getW w s).getD 0) := by
  have h := dgetT_G s (iW w)
  have e : KC.key s = sgKey s := rfl
  rw [e] at h
  unfold esW
  rw [h, getG_W]
  cases getW w s <;> rfl
theorem gItems2_W (w : Wt) : gItems2 (tdW w) = some ((w.map (·.1)).map eSg) := by
  unfold tdW
  rw [gItems2_G]
  have : (iW w).map (·.1) = w.map (·.1) := by unfold iW; rw [List.map_map]; rfl
  rw [this]
  congr 1
  exact List.map_congr_left fun s _ => kc_sg s
theorem isBg_W (w : Wt) : isBg (tdW w) = false := by
  unfold tdW
  generalize iW w = l
  cases l <;> rfl
theorem first_sg (s : Sg) : ∃ a l, eSg s = .tuple (a :: l) ∧ dataType a = .type "str" := ⟨_, _, rfl, rfl⟩
theorem okSC_sg {l : List Sg} (h : ∀ s ∈ l, SgOk s) : okSC (l.map eSg) = true := okSC_of (n := 1) (by decide) (fun d hd => by
    obtain ⟨s, hs, rfl⟩ := List.mem_map.mp hd
    exact okM_sg (h s hs)) (fun d hd => by
    obtain ⟨s, hs, rfl⟩ := List.mem_map.mp hd
    exact first_sg s) fun a ha b hb => by
    obtain ⟨s, _, rfl⟩ := List.mem_map.mp ha
    obtain ⟨t, _, rfl⟩ := List.mem_map.mp hb
    exact cmp_sg s t
theorem w_sortSg {w : Wt} (h : ∀ s ∈ w.map (·.1), SgOk s) (q : Q (.list ((sortBy eSg (w.map (·.1))).map eSg))) : Wp (gSortedTX [tdW w]) Q := by
  have e1 : (iW w).map (·.1) = w.map (·.1) := by unfold iW; rw [List.map_map]; rfl
  have e2 : ((iW w).map (·.1)).map kcD = (w.map (·.1)).map eSg := by
    rw [e1]; exact List.map_congr_left fun s _ => kc_sg s
  refine w_sortedG (fun p _ => ?_) (by rw [e2]; exact okSC_sg h) ?_
  · show isIK (sgKey p.1) = false
    rfl
  · rw [e2, sortD_map]; exact q
theorem snoc_ind {α : Type} {P : List α → Prop} (l : List α) (h0 : P []) (h1 : ∀ l x, P l → P (l ++ [x])) : P l := by
  rw [← List.reverse_reverse l]
  generalize l.reverse = m
  induction m with
  | nil => exact h0
  | cons x r ih => rw [List.reverse_cons]; exact h1 _ _ ih
def wgt (ps : List Pr) : Wt := ps.foldl (fun w p => putW w p.1 ((getW w p.1).getD 0 + if p.2.1 then p.2.2 else -p.2.2)) []
def lst (ps : List Pr) (n : Int) : Int := ps.foldl (fun n p => n - if p.2.1 then 0 else p.2.2) n
def pt (w : Wt) (s : Sg) : List Pr := let c := (getW w s).getD 0; if 0 < c then [(s, true, c)] else if c < 0 then [(s, false, -c)] else []
def neg (w : Wt) (s : Sg) : Int := let c := (getW w s).getD 0; if c < 0 then c else 0
def sumN (w : Wt) (ks : List Sg) (n : Int) : Int := ks.foldl (fun n s => n - neg w s) n
abbrev Rw := List Pr × Int
def eRw (r : Rw) : D := .tuple [.tuple (r.1.map ePr), .int r.2]
def rowN (ps : List Pr) (n : Int) : Rw := let w := wgt ps; let ks := w.map (·.1); (sortBy ePr (ks.flatMap (pt w)), max (sumN w ks (lst ps n)) 0)
theorem wgt_snoc (ps : List Pr) (p : Pr) : wgt (ps ++ [p]) = putW (wgt ps) p.1 ((getW (wgt ps) p.1).getD 0 + if p.2.1 then p.2.2 else -p.2.2) := by
  unfold wgt; rw [List.foldl_append]; rfl
theorem lst_snoc (ps : List Pr) (n : Int) (p : Pr) : lst (ps ++ [p]) n = lst ps n - if p.2.1 then 0 else p.2.2 := by
  unfold lst; rw [List.foldl_append]; rfl
theorem wgt_len (ps : List Pr) : (wgt ps).length ≤ ps.length := by
  refine snoc_ind (P := fun ps => (wgt ps).length ≤ ps.length) ps (Nat.le_refl _) fun ps p ih => ?_
  rw [wgt_snoc]
  have := putW_len (wgt ps) p.1 ((getW (wgt ps) p.1).getD 0 + if p.2.1 then p.2.2 else -p.2.2)
  rw [List.length_append, List.length_singleton]
  omega
theorem wgt_nd (ps : List Pr) : ((wgt ps).map (·.1)).Nodup := by
  refine snoc_ind (P := fun ps => ((wgt ps).map (·.1)).Nodup) ps List.nodup_nil fun ps p ih => ?_
  rw [wgt_snoc]
  exact putW_nd ih _ _
theorem wgt_mem {ps : List Pr} : ∀ s ∈ (wgt ps).map (·.1), ∃ p ∈ ps, p.1 = s := by
  refine snoc_ind (P := fun ps => ∀ s ∈ (wgt ps).map (·.1), ∃ p ∈ ps, p.1 = s) ps (fun s h => by cases h) fun ps p ih s h => ?_
  rw [wgt_snoc] at h
  rcases putW_mem h with h | h
  · obtain ⟨q, hq, e⟩ := ih s h
    exact ⟨q, List.mem_append_left _ hq, e⟩
  · exact ⟨p, by simp, h.symm⟩
theorem sumN_perm (w : Wt) {a b : List Sg} (h : a.Perm b) : ∀ n, sumN w a n = sumN w b n := by
  induction h with
  | nil => exact fun _ => rfl
  | cons x _ ih => exact fun n => ih _
  | swap x y l =>
      intro n
      have e : n - neg w y - neg w x = n - neg w x - neg w y := by omega
      show sumN w l (n - neg w y - neg w x) = sumN w l (n - neg w x - neg w y)
      rw [e]
  | trans _ _ i1 i2 => exact fun n => (i1 n).trans (i2 n)
theorem pt_sg {w : Wt} {s : Sg} {p : Pr} (h : p ∈ pt w s) : p.1 = s := by
  unfold pt at h
  simp only at h
  split at h
  · rw [List.mem_singleton.mp h]
  · split at h
    · rw [List.mem_singleton.mp h]
    · cases h
theorem pt_one (w : Wt) (s : Sg) (R : Pr → Pr → Prop) : (pt w s).Pairwise R := by
  unfold pt
  simp only
  split
  · exact List.pairwise_singleton ..
  · split
    · exact List.pairwise_singleton ..
    · exact List.Pairwise.nil
theorem lt_parts {p q : Pr} (h : PySem.W.dataLt (eSg q.1) (eSg p.1) = false) (hne : q.1 ≠ p.1) : PySem.W.dataLe false id (ePr p) (ePr q) = true := by
  rw [dataLe_id]
  have e : PySem.W.dataLt (ePr q) (ePr p) = PySem.W.dataLt (eSg q.1) (eSg p.1) := by
    obtain ⟨s, b, c⟩ := p
    obtain ⟨t, b', c'⟩ := q
    unfold PySem.W.dataLt
    simp only [ePr, eSd, keyToks, keyToksAll, List.cons_append, List.nil_append, List.append_assoc]
    have hv : PyData.eqv (eSg t) (eSg s) = false := by
      cases q : PyData.eqv (eSg t) (eSg s) with
      | false => rfl
      | true => exact absurd (eSg_inj (plain_eqv _ _ (plain_sg t) (plain_sg s) q)) hne
    rw [lex_self, lex_self]
    exact toks_cmp _ _ (cmp_sg t s) hv _ _
  rw [e, h]; rfl
theorem parts_eq (w : Wt) (hn : (w.map (·.1)).Nodup) : ((sortBy eSg (w.map (·.1))).flatMap (pt w)).map ePr = (sortBy ePr ((w.map (·.1)).flatMap (pt w))).map ePr := by
  have hp := sortBy_perm eSg (w.map (·.1))
  have hs : (sortBy eSg (w.map (·.1))).Pairwise fun a b => PySem.W.dataLe false id (eSg a) (eSg b) = true := by
    have T := PySem.W.sortLe_total (listOrd itemOrd) false fun b : D => PySem.W.keyToks b
    have h : (sortD ((w.map (·.1)).map eSg)).Pairwise fun a b => PySem.W.dataLe false id a b = true := List.pairwise_mergeSort T.trans (fun a b => by rw [Bool.or_eq_true]; exact T.total a b) _
    rw [sortD_map, List.pairwise_map] at h
    exact h
  have hd : (sortBy eSg (w.map (·.1))).Nodup := hp.nodup_iff.mpr hn
  have e1 : sortD (((sortBy eSg (w.map (·.1))).flatMap (pt w)).map ePr) = ((sortBy eSg (w.map (·.1))).flatMap (pt w)).map ePr := by
    refine sorted_id ?_
    rw [List.pairwise_map, List.pairwise_flatMap]
    refine ⟨fun s _ => pt_one w s _, ?_⟩
    refine (hs.and hd).imp fun {a b} ⟨h1, h2⟩ x hx y hy => ?_
    have ex := pt_sg hx
    have ey := pt_sg hy
    refine lt_parts ?_ ?_
    · rw [ex, ey]
      rw [dataLe_id] at h1
      simpa using h1
    · rw [ex, ey]; exact fun z => h2 z.symm
  rw [← e1, ← sortD_map]
  exact sortD_inj ((hp.flatMap_right _).map _) fun x hx y hy h => by
    obtain ⟨x', _, rfl⟩ := List.mem_map.mp hx
    obtain ⟨y', _, rfl⟩ := List.mem_map.mp hy
    rw [toks_pr h]
end
section
open PySem.W
local macro_rules | `(tactic| allgen_close_more) => `(tactic| first
  | (simp -dsimp only [isBg_W, gItems2_W, tdQ_W, dget_W, ePr, eSd, Bool.false_eq_true, ↓reduceIte, false_implies, true_and, not_false_eq_true, forall_const])
  | (with_reducible refine w_keySg ?_)
  | (with_reducible refine w_putSg ?hh ?_; (case hh => assumption))
  | (with_reducible refine w_ixSg (c := ?cc) ?hh ?_; (case hh => assumption)))
theorem flat_len (w : Wt) : ∀ ks : List Sg, (ks.flatMap (pt w)).length ≤ ks.length
  | [] => Nat.le_refl _
  | s :: r => by
    rw [List.flatMap_cons, List.length_append, List.length_cons]
    have := flat_len w r
    have : (pt w s).length ≤ 1 := by
      unfold pt
      simp only
      split
      · exact Nat.le_refl _
      · split
        · exact Nat.le_refl _
        · exact Nat.zero_le _
    omega
theorem cmp_pr (p q : Pr) : cmpD (ePr p) (ePr q) = true := by
  show cmpL [eSd p.1 p.2.1, .int p.2.2] [eSd q.1 q.2.1, .int q.2.2] = true
  unfold cmpL
  split
  · unfold cmpL; split <;> simp [cmpL, cmpD]
  · show cmpL [eSg p.1, .bool p.2.1] [eSg q.1, .bool q.2.1] = true
    unfold cmpL
    split
    · unfold cmpL; split <;> simp [cmpL, cmpD]
    · exact cmp_sg _ _
theorem okM_pr {p : Pr} (h : SgOk p.1) : okM 3 (ePr p) := okM_tup fun d hd => by
  simp only [List.mem_cons, List.not_mem_nil, or_false] at hd
  rcases hd with rfl | rfl
  · exact okM_tup fun d hd => by
      simp only [List.mem_cons, List.not_mem_nil, or_false] at hd
      rcases hd with rfl | rfl
      · exact okM_sg h
      · exact okM_bool _ _
  · exact okM_int _ _
theorem okSC_pr {l : List Pr} (h : ∀ p ∈ l, SgOk p.1) : okSC (l.map ePr) = true := okSC_of (n := 3) (T := .type "tuple") (by decide) (fun d hd => by
    obtain ⟨s, hs, rfl⟩ := List.mem_map.mp hd
    exact okM_pr (h s hs)) (fun d hd => by
    obtain ⟨s, hs, rfl⟩ := List.mem_map.mp hd
    exact ⟨_, _, rfl, rfl⟩) fun a ha b hb => by
    obtain ⟨s, _, rfl⟩ := List.mem_map.mp ha
    obtain ⟨t, _, rfl⟩ := List.mem_map.mp hb
    exact cmp_pr s t
theorem pts_ok {ps : List Pr} (hok : ∀ p ∈ ps, SgOk p.1) : ∀ p ∈ ((wgt ps).map (·.1)).flatMap (pt (wgt ps)), SgOk p.1 := fun p hp => by
  obtain ⟨s, hs, h⟩ := List.mem_flatMap.mp hp
  rw [pt_sg h]
  obtain ⟨q, hq, rfl⟩ := wgt_mem s hs
  exact hok q hq
theorem max_r (x : Int) : (if x > 0 then x else 0) = max x 0 := by rw [Int.max_def]; split <;> split <;> omega
theorem max_l (x : Int) : (if 0 > x then 0 else x) = max x 0 := by rw [Int.max_def]; split <;> split <;> omega
theorem norm_w {ps : List Pr} {n : Int} (hl : ps.length < 1000000) (hok : ∀ p ∈ ps, SgOk p.1) {Q : D → List D → Prop} (q : ∀ es, es.length = 2 → Q (eRw (rowN ps n)) es) : PD.Wq (f_norm [.list (ps.map ePr), .int n]) Q := by
  unfold f_norm m_norm
  top_reprB
  refine W_forM ps ePr (fun pre ρ => ∃ (a b c d : Option (Bool × D)), ρ = [some (false, .list (ps.map ePr)), some (false, .int (lst pre n)), some (true, tdW (wgt pre)), a, b, c, d]) ⟨_, _, _, _, rfl⟩ (fun pre p post ρ hx ⟨a, b, c, d, e1⟩ => ?_) fun ρ ⟨a, b, c, d, e1⟩ => ?_
  · subst e1
    have hw : (wgt pre).length < 16777216 := by
      have := wgt_len pre
      have := congrArg List.length hx
      rw [List.length_append] at this
      omega
    obtain ⟨s, b, v⟩ := p
    cases b <;> top_reprB
    all_goals exact ⟨_, _, _, _, by rw [lst_snoc, wgt_snoc]; simp; exact ⟨rfl, rfl, rfl, rfl⟩⟩
  · subst e1
    top_reprB
    refine w_sortSg (fun s hs => ?_) ?_
    · obtain ⟨p, hp, rfl⟩ := wgt_mem s hs
      exact hok p hp
    top_reprB
    have hp := sortBy_perm eSg ((wgt ps).map (·.1))
    refine W_forM (sortBy eSg ((wgt ps).map (·.1))) eSg (fun pre ρ => ∃ (a b c : Option (Bool × D)), ρ = [some (false, .list (ps.map ePr)), some (false, .int (sumN (wgt ps) pre (lst ps n))), some (true, tdW (wgt ps)), a, b, c, some (true, .list ((pre.flatMap (pt (wgt ps))).map ePr))] ∧ pre.length ≤ ps.length) ⟨_, _, _, rfl, Nat.zero_le _⟩ (fun pre s post ρ hx ⟨a, b, c, e1, e2⟩ => ?_) fun ρ ⟨a, b, c, e1, e2⟩ => ?_
    · subst e1
      obtain ⟨v, hv⟩ := getW_mem (w := wgt ps) (s := s) (hp.mem_iff.mp (by rw [hx]; simp))
      have hlen : (pre ++ [s]).length ≤ ps.length := by
        have h1 := hp.length_eq
        have h2 := wgt_len ps
        rw [hx, List.length_map, List.length_append, List.length_cons] at h1
        rw [List.length_append, List.length_singleton]
        omega
      have hfl := flat_len (wgt ps) pre
      have e5 : sumN (wgt ps) (pre ++ [s]) (lst ps n) = sumN (wgt ps) pre (lst ps n) - neg (wgt ps) s := by
        unfold sumN; rw [List.foldl_append]; rfl
      have e6 : ((pre ++ [s]).flatMap (pt (wgt ps))).map ePr = (pre.flatMap (pt (wgt ps))).map ePr ++ (pt (wgt ps) s).map ePr := by
        rw [List.flatMap_append, List.map_append]; simp
      have e7 : pt (wgt ps) s = if 0 < v then [(s, true, v)] else if v < 0 then [(s, false, -v)] else [] := by unfold pt; rw [hv]; rfl
      have e8 : neg (wgt ps) s = if v < 0 then v else 0 := by unfold neg; rw [hv]; rfl
      top_reprB
      all_goals first
        | omega
        | (refine ⟨some (false, eSg s), b, some (false, .int v), ?_, hlen⟩
           rw [e5, e6, e7, e8]
           simp [*, ePr, eSd])
    · subst e1
      top_reprB
      unfold eRw rowN at q
      simp only at q
      rw [← parts_eq _ (wgt_nd ps), ← sumN_perm _ hp] at q
      rw [max_l]
      exact q _ rfl
theorem law_norm_w {ps : List Pr} {n : Int} (hl : ps.length < 1000000) (hok : ∀ p ∈ ps, SgOk p.1) {Q : D → List D → Prop} (q : ∀ es, es.length = 2 → Q (eRw (rowN ps n)) es) : PD.Wq (f__law_norm [.list (ps.map ePr), .int n]) Q := by
  unfold f__law_norm m__law_norm
  top_reprB
  refine W_forM ps ePr (fun pre ρ => ∃ (a b c d : Option (Bool × D)), ρ = [some (false, .list (ps.map ePr)), some (false, .int (lst pre n)), some (true, tdW (wgt pre)), a, b, c, d]) ⟨_, _, _, _, rfl⟩ (fun pre p post ρ hx ⟨a, b, c, d, e1⟩ => ?_) fun ρ ⟨a, b, c, d, e1⟩ => ?_
  · subst e1
    have hw : (wgt pre).length < 16777216 := by
      have := wgt_len pre
      have := congrArg List.length hx
      rw [List.length_append] at this
      omega
    obtain ⟨s, b, v⟩ := p
    cases b <;> top_reprB
    all_goals exact ⟨_, _, _, _, by rw [lst_snoc, wgt_snoc]; simp; exact ⟨rfl, rfl, rfl, rfl⟩⟩
  · subst e1
    top_reprB
    refine W_forM ((wgt ps).map (·.1)) eSg (fun pre ρ => ∃ (a b c : Option (Bool × D)), ρ = [some (false, .list (ps.map ePr)), some (false, .int (sumN (wgt ps) pre (lst ps n))), some (false, tdW (wgt ps)), a, b, some (true, .list ((pre.flatMap (pt (wgt ps))).map ePr)), c] ∧ pre.length ≤ ps.length) ⟨_, _, _, rfl, Nat.zero_le _⟩ (fun pre s post ρ hx ⟨a, b, c, e1, e2⟩ => ?_) fun ρ ⟨a, b, c, e1, e2⟩ => ?_
    · subst e1
      obtain ⟨v, hv⟩ := getW_mem (w := wgt ps) (s := s) (by rw [hx]; simp)
      have hlen : (pre ++ [s]).length ≤ ps.length := by
        have h1 := congrArg List.length hx
        have h2 := wgt_len ps
        rw [List.length_map, List.length_append, List.length_cons] at h1
        rw [List.length_append, List.length_singleton]
        omega
      have hfl := flat_len (wgt ps) pre
      have e5 : sumN (wgt ps) (pre ++ [s]) (lst ps n) = sumN (wgt ps) pre (lst ps n) - neg (wgt ps) s := by
        unfold sumN; rw [List.foldl_append]; rfl
      have e6 : ((pre ++ [s]).flatMap (pt (wgt ps))).map ePr = (pre.flatMap (pt (wgt ps))).map ePr ++ (pt (wgt ps) s).map ePr := by
        rw [List.flatMap_append, List.map_append]; simp
      have e7 : pt (wgt ps) s = if 0 < v then [(s, true, v)] else if v < 0 then [(s, false, -v)] else [] := by unfold pt; rw [hv]; rfl
      have e8 : neg (wgt ps) s = if v < 0 then v else 0 := by unfold neg; rw [hv]; rfl
      top_reprB
      all_goals first
        | omega
        | (refine ⟨a, b, some (false, eSg s), ?_, hlen⟩
           rw [e5, e6, e7, e8]
           simp [*, ePr, eSd])
    · subst e1
      top_reprB
      refine w_sorted4M (okSC_pr (pts_ok hok)) ?_
      top_reprB
      unfold eRw rowN at q
      simp only at q
      rw [max_r]
      exact q _ rfl
end
section
open PySem.W
def domOf (us : Ux) (x : Str) : List Int := (getM us x).getD []
theorem domOf_ok {us : Ux} {x : Str} (h : Xs us) (hx : x ∈ nms us) : getM us x = some (domOf us x) ∧ DomOk (domOf us x) := by
  obtain ⟨d, hd, rfl⟩ := List.mem_map.mp hx
  unfold domOf
  rw [getM_nd h.nd hd]
  exact ⟨rfl, h.dom d hd⟩
theorem w_domE {us : Ux} {x : Str} {Q : D → Prop} (h : Xs us) (hx : x ∈ nms us) (q : Q (.tuple ((domOf us x).map .int))) : Wp (gIx (eUs us) (.str x)) Q := w_ixMS (domOf_ok h hx).1 q
def eTm (p : Str × Int) : D := .tuple [.str p.1, .int p.2]
def vpr (x : Str) (vs : List Int) (w : Int) (k : Nat) : Pr := (⟨"from", x, [vs.getD (k + 1) 0]⟩, true, w * (vs.getD (k + 1) 0 - vs.getD k 0))
def vprs (x : Str) (vs : List Int) (w : Int) : List Pr := (List.range (vs.length - 1)).map (vpr x vs w)
theorem rangeD_1 {n : Nat} : rangeD 1 n = (List.range n).map fun k => PyData.int ((k : Nat) + 1 : Int) := by
  unfold rangeD
  refine List.map_congr_left fun k _ => ?_
  rw [Int.add_comm]
theorem get_getD {vs : List Int} {i : Int} {k : Nat} {x : Int} (h : vs[i.toNat]? = some x) (e : i = k) : vs.getD k 0 = x := by
  subst e
  rw [List.getD_eq_getElem?_getD]
  simp only [Int.toNat_natCast] at h
  rw [h]; rfl
local macro_rules | `(tactic| allgen_close_more) => `(tactic| first
  | (with_reducible refine w_domE ?h1 ?h2 ?_; (case h1 => assumption); (case h2 => assumption)))
theorem value_pairs_w {us : Ux} {x : Str} {w : Int} (h : Xs us) (hx : x ∈ nms us) (hw : -1000 ≤ w ∧ w ≤ 1000) {Q : D → List D → Prop} (q : Q (.list ((vprs x (domOf us x) w).map ePr)) [eUs us, .str x, .int w]) : PD.Wq (f_value_pairs [eUs us, .str x, .int w]) Q := by
  have hd := (domOf_ok h hx).2
  have hne := hd.ne
  have hfew := hd.few
  unfold f_value_pairs m_value_pairs
  top_reprB
  refine wr2 (by rw [List.length_map]; omega) ?_
  rw [List.length_map, show (((domOf us x).length : Int) - 1).toNat = (domOf us x).length - 1 by omega, rangeD_1]
  refine q_lcA (List.range ((domOf us x).length - 1)) (fun k : Nat => PyData.int ((k : Nat) + 1 : Int)) (fun ρ => ∃ a, ρ = [some (false, eUs us), some (false, .str x), some (false, .int w), some (false, .tuple ((domOf us x).map .int)), a]) (fun k => ePr (vpr x (domOf us x) w k)) (by rw [List.length_range]; omega) ⟨_, rfl⟩ (fun k hk ρ ⟨a, e1⟩ => ?_) fun ρ ⟨a, e1⟩ => ?_
  · have hk : k + 1 < (domOf us x).length := by have := List.mem_range.mp hk; omega
    subst e1
    top_reprB
    rotate_left
    · exact ⟨_, rfl⟩
    rename_i v1 g1 v2 g2 v3 g3
    rw [← get_getD (k := k + 1) g1 (by omega)]
    have e2 := get_getD (k := k + 1) g2 (by omega)
    have e3 := get_getD (k := k) g3 (by omega)
    rw [← e2, ← e3]
    rfl
  · subst e1
    top_reprB
    rw [show (List.range ((domOf us x).length - 1)).map (fun k => ePr (vpr x (domOf us x) w k)) = (vprs x (domOf us x) w).map ePr by unfold vprs; rw [List.map_map]; rfl]
    exact q
theorem from_ok {us : Ux} {x : Str} (h : Xs us) (hx : x ∈ nms us) (v : Int) : SgOk ⟨"from", x, [v]⟩ := ⟨show PyData.strOk "from" = true by decide +kernel, h.ok x hx, show 1 < 1000 by decide⟩
def sprs (us : Ux) (ts : List (Str × Int)) : List Pr := ts.flatMap fun t => vprs t.1 (domOf us t.1) t.2
def sn (us : Ux) (ts : List (Str × Int)) (n : Int) : Int := ts.foldl (fun n t => n - t.2 * (domOf us t.1).getD 0 0) n
theorem sn_snoc (us : Ux) (ts : List (Str × Int)) (t : Str × Int) (n : Int) : sn us (ts ++ [t]) n = sn us ts n - t.2 * (domOf us t.1).getD 0 0 := by
  unfold sn; rw [List.foldl_append]; rfl
theorem sprs_snoc (us : Ux) (ts : List (Str × Int)) (t : Str × Int) : sprs us (ts ++ [t]) = sprs us ts ++ vprs t.1 (domOf us t.1) t.2 := by
  unfold sprs; rw [List.flatMap_append]; simp
theorem vprs_len {us : Ux} {x : Str} (h : Xs us) (hx : x ∈ nms us) (w : Int) : (vprs x (domOf us x) w).length ≤ 12 := by
  have := (domOf_ok h hx).2.few
  unfold vprs
  rw [List.length_map, List.length_range]
  omega
theorem sprs_len {us : Ux} (h : Xs us) : ∀ {ts : List (Str × Int)}, (∀ t ∈ ts, t.1 ∈ nms us) → (sprs us ts).length ≤ 12 * ts.length
  | [], _ => Nat.le_refl _
  | t :: r, ht => by
    have h1 := vprs_len h (ht t List.mem_cons_self) t.2
    have h2 := sprs_len h (ts := r) fun u hu => ht u (List.mem_cons_of_mem _ hu)
    show (vprs t.1 (domOf us t.1) t.2 ++ sprs us r).length ≤ _
    rw [List.length_append, List.length_cons]
    omega
theorem sprs_ok {us : Ux} (h : Xs us) {ts : List (Str × Int)} (ht : ∀ t ∈ ts, t.1 ∈ nms us) : ∀ p ∈ sprs us ts, SgOk p.1 := fun p hp => by
  obtain ⟨t, htm, hp⟩ := List.mem_flatMap.mp hp
  obtain ⟨k, _, rfl⟩ := List.mem_map.mp hp
  exact from_ok h (ht t htm) _
def rowS (us : Ux) (ts : List (Str × Int)) (n : Int) : Rw := rowN (sprs us ts) (sn us ts n)
def LT (d : D) (xs : List D) : Prop := d = .list xs ∨ d = .tuple xs
structure TsOk (us : Ux) (ts : List (Str × Int)) : Prop where
  few : ts.length < 1000
  nm : ∀ t ∈ ts, t.1 ∈ nms us
  w : ∀ t ∈ ts, -1000 ≤ t.2 ∧ t.2 ≤ 1000
local macro_rules | `(tactic| allgen_close_more) => `(tactic| first
  | (simp -dsimp only [eTm])
  | (with_reducible refine w_domE ?h1 ?h2 ?_; (case h1 => assumption); (case h2 => assumption))
  | (with_reducible refine value_pairs_w ?h1 ?h2 ?h3 ?_; (case h1 => assumption); (case h2 => assumption); (case h3 => assumption)))
theorem first_eq {vs : List Int} {x : Int} (h : vs[(0 : Int).toNat]? = some x) : vs.getD 0 0 = x := get_getD (k := 0) h rfl
theorem sum_row_w {us : Ux} {ts : List (Str × Int)} {n : Int} {d : D} (h : Xs us) (ht : TsOk us ts) (hd : LT d (ts.map eTm)) {Q : D → List D → Prop} (q : ∀ es, es.length = 3 → Q (eRw (rowS us ts n)) es) : PD.Wq (f_sum_row [eUs us, d, .int n]) Q := by
  have hlen := ht.few
  have main : ∀ d, LT d (ts.map eTm) → PD.Wq (f_sum_row [eUs us, d, .int n]) Q := fun d hd => by
    have hdi : gItems2 d = some (ts.map eTm) := by rcases hd with rfl | rfl <;> rfl
    have hb : True := trivial
    unfold f_sum_row m_sum_row
    rcases hd with rfl | rfl <;> top_reprB
    all_goals
      refine W_forM ts eTm (fun pre ρ => ∃ (a b : Option (Bool × D)) (d : D), ρ = [some (false, eUs us), some (false, d), some (false, .int (sn us pre n)), some (true, .list ((sprs us pre).map ePr)), a, b]) ⟨_, _, _, rfl⟩ (fun pre t post ρ hx ⟨a, b, d, e1⟩ => ?_) fun ρ ⟨a, b, d, e1⟩ => ?_
      · subst e1
        have htm : t ∈ ts := by rw [hx]; simp
        have h1 := ht.nm t htm
        have h2 := ht.w t htm
        have h3 := (domOf_ok h h1).2.ne
        have h4 := vprs_len h h1 t.2
        have h5 := sprs_len h (ts := pre) fun u hu => ht.nm u (by rw [hx]; simp [hu])
        have h6 := congrArg List.length hx
        rw [List.length_append, List.length_cons] at h6
        top_reprB
        rename_i v g1
        exact ⟨_, _, d, by rw [sn_snoc, sprs_snoc, List.map_append, first_eq g1]⟩
      · subst e1
        have h5 := sprs_len h ht.nm
        top_reprB
        refine norm_w (by omega) (sprs_ok h ht.nm) fun es he => ?_
        top_reprB
        · exact he
        · exact q _ rfl
  exact main d hd
theorem law_sum_row_w {us : Ux} {ts : List (Str × Int)} {n : Int} {d : D} (h : Xs us) (ht : TsOk us ts) (hd : LT d (ts.map eTm)) {Q : D → List D → Prop} (q : ∀ es, es.length = 3 → Q (eRw (rowS us ts n)) es) : PD.Wq (f__law_sum_row [eUs us, d, .int n]) Q := by
  have hlen := ht.few
  unfold f__law_sum_row m__law_sum_row
  rcases hd with rfl | rfl <;> top_reprB
  all_goals
    refine W_forM ts eTm (fun pre ρ => ∃ (a b c : Option (Bool × D)) (d : D), ρ = [some (false, eUs us), some (false, d), some (false, .int (sn us pre n)), some (true, .list ((sprs us pre).map ePr)), a, b, c]) ⟨_, _, _, _, rfl⟩ (fun pre t post ρ hx ⟨a, b, c, d, e1⟩ => ?_) fun ρ ⟨a, b, c, d, e1⟩ => ?_
    · subst e1
      have htm : t ∈ ts := by rw [hx]; simp
      have h1 := ht.nm t htm
      have h2 := ht.w t htm
      have h3 := (domOf_ok h h1).2.ne
      have h3b := (domOf_ok h h1).2.few
      have h4 := vprs_len h h1 t.2
      have h5 := sprs_len h (ts := pre) fun u hu => ht.nm u (by rw [hx]; simp [hu])
      have h6 := congrArg List.length hx
      rw [List.length_append, List.length_cons] at h6
      top_reprB
      rename_i v g1
      refine wr2 (by rw [List.length_map]; omega) ?_
      rw [List.length_map, show (((domOf us t.1).length : Int) - 1).toNat = (domOf us t.1).length - 1 by omega, rangeD_1]
      refine W_forM (List.range ((domOf us t.1).length - 1)) (fun k : Nat => PyData.int ((k : Nat) + 1 : Int)) (fun p2 ρ => ∃ (c : Option (Bool × D)), ρ = [some (false, eUs us), some (false, d), some (false, .int (sn us (pre ++ [t]) n)), some (true, .list ((sprs us pre ++ p2.map (vpr t.1 (domOf us t.1) t.2)).map ePr)), some (false, .str t.1), some (false, .int t.2), c]) ⟨c, ?_⟩ (fun p2 k post2 ρ hx2 ⟨c, e1⟩ => ?_) fun ρ ⟨c, e1⟩ => ?_
      · rw [sn_snoc, first_eq g1]; simp
      · subst e1
        have hk : k + 1 < (domOf us t.1).length := by
          have : k ∈ List.range ((domOf us t.1).length - 1) := by rw [hx2]; simp
          have := List.mem_range.mp this
          omega
        have h7 := congrArg List.length hx2
        rw [List.length_append, List.length_cons, List.length_range] at h7
        top_reprB
        rename_i v1 g2 v2 g3 v3 g4
        refine ⟨some (false, .int ((k : Nat) + 1 : Int)), ?_⟩
        have e2 := get_getD (k := k + 1) g2 (by omega)
        have e3 := get_getD (k := k + 1) g3 (by omega)
        have e4 := get_getD (k := k) g4 (by omega)
        rw [← e2, ← e3, ← e4]
        simp only [List.map_append, List.map_cons, List.map_nil, vpr, ePr, eSd, eSg, List.append_assoc]
      · subst e1
        top_reprB
        exact ⟨_, _, _, d, by rw [sprs_snoc]; rfl⟩
    · subst e1
      have h5 := sprs_len h ht.nm
      top_reprB
      refine law_norm_w (by omega) (sprs_ok h ht.nm) fun es he => ?_
      top_reprB
      · exact he
      · exact q _ rfl
end
section
open PySem.W
theorem LT.items {d : D} {xs : List D} (h : LT d xs) : gItems2 d = some xs := by rcases h with rfl | rfl <;> rfl
def isS (v : Int) (x : Str) : Sg := ⟨"is", x, [v]⟩
def hv (us : Ux) (v : Int) (x : Str) : Bool := decide (v ∈ domOf us x)
def hvg (us : Ux) (xs : List Str) (v : Int) : List Sg := (xs.filter (hv us v)).map (isS v)
theorem isS_ok {us : Ux} {x : Str} (h : Xs us) (hx : x ∈ nms us) (v : Int) : SgOk (isS v x) := ⟨show PyData.strOk "is" = true by decide +kernel, h.ok x hx, show 1 < 1000 by decide⟩
theorem hvg_ok {us : Ux} {xs : List Str} (h : Xs us) (hx : ∀ x ∈ xs, x ∈ nms us) (v : Int) : ∀ s ∈ hvg us xs v, SgOk s := fun s hs => by
  obtain ⟨x, hm, rfl⟩ := List.mem_map.mp hs
  exact isS_ok h (hx x (List.mem_filter.mp hm).1) v
theorem hvg_len (us : Ux) (xs : List Str) (v : Int) : (hvg us xs v).length ≤ xs.length := by
  unfold hvg
  rw [List.length_map]
  exact List.length_filter_le ..
theorem w_hv {us : Ux} {x : Str} {v : Int} {Q : D → Prop} (q : Q (.bool (hv us v x))) : Wp (gIn (.int v) (.tuple ((domOf us x).map .int))) Q := w_inIT q
local macro_rules | `(tactic| allgen_close_more) => `(tactic| first
  | (with_reducible refine w_domE ?h1 ?h2 ?_; (case h1 => assumption); (case h2 => assumption))
  | (with_reducible refine w_hv ?_))
theorem having_w {us : Ux} {xs : List Str} {v : Int} {d : D} (h : Xs us) (hl : xs.length < 1000) (hx : ∀ x ∈ xs, x ∈ nms us) (hd : LT d (xs.map .str)) {Q : D → List D → Prop} (q : ∀ es, es.length = 3 → Q (.list ((hvg us xs v).map eSg)) es) : PD.Wq (f_having [eUs us, d, .int v]) Q := by
  unfold f_having m_having
  rcases hd with rfl | rfl <;> top_reprB
  all_goals
    refine q_lcM xs .str (fun ρ => ∃ a d, ρ = [some (false, eUs us), some (false, d), some (false, .int v), a]) (hv us v) (fun x => eSg (isS v x)) (by omega) ⟨_, _, rfl⟩ (fun x hx' ρ ⟨a, d, e1⟩ => ?_) fun ρ ⟨a, d, e1⟩ => ?_
    · subst e1
      have hm := hx x hx'
      top_reprB
      all_goals first
        | rfl
        | exact ⟨_, d, rfl⟩
    · subst e1
      top_reprB
      rw [show (xs.filter (hv us v)).map (fun x => eSg (isS v x)) = (hvg us xs v).map eSg by unfold hvg; rw [List.map_map]; rfl]
      exact q _ rfl
def rowM (sgs : List Sg) (m : Int) : Rw := rowN (sgs.map fun s => (s, true, -1)) (-m)
def rowL (sgs : List Sg) (m : Int) : Rw := rowN (sgs.map fun s => (s, true, 1)) m
theorem prs_ok {sgs : List Sg} (h : ∀ s ∈ sgs, SgOk s) (c : Int) : ∀ p ∈ sgs.map (fun s => ((s, true, c) : Pr)), SgOk p.1 := fun p hp => by
  obtain ⟨s, hs, rfl⟩ := List.mem_map.mp hp
  exact h s hs
theorem prs_map (sgs : List Sg) (c : Int) : (sgs.map fun s => ePr (s, true, c)) = (sgs.map fun s => ((s, true, c) : Pr)).map ePr := by
  rw [List.map_map]; rfl
theorem at_most_w {sgs : List Sg} {m : Int} (hl : sgs.length < 1000) (h : ∀ s ∈ sgs, SgOk s) {Q : D → List D → Prop} (q : ∀ es, es.length = 2 → Q (eRw (rowM sgs m)) es) : PD.Wq (f_at_most [.list (sgs.map eSg), .int m]) Q := by
  unfold f_at_most m_at_most
  top_reprB
  refine q_lcA sgs eSg (fun ρ => ∃ a, ρ = [some (false, .list (sgs.map eSg)), some (false, .int m), a]) (fun s => ePr (s, true, -1)) (by omega) ⟨_, rfl⟩ (fun s hs ρ ⟨a, e1⟩ => ?_) fun ρ ⟨a, e1⟩ => ?_
  · subst e1
    top_reprB
    · rfl
    · exact ⟨_, rfl⟩
  · subst e1
    rw [prs_map]
    top_reprB
    refine norm_w (by rw [List.length_map]; omega) (prs_ok h _) fun es he => ?_
    top_reprB
    · exact he
    · exact q _ rfl
theorem at_least_w {sgs : List Sg} {m : Int} (hl : sgs.length < 1000) (h : ∀ s ∈ sgs, SgOk s) {Q : D → List D → Prop} (q : ∀ es, es.length = 2 → Q (eRw (rowL sgs m)) es) : PD.Wq (f_at_least [.list (sgs.map eSg), .int m]) Q := by
  unfold f_at_least m_at_least
  top_reprB
  refine q_lcA sgs eSg (fun ρ => ∃ a, ρ = [some (false, .list (sgs.map eSg)), some (false, .int m), a]) (fun s => ePr (s, true, 1)) (by omega) ⟨_, rfl⟩ (fun s hs ρ ⟨a, e1⟩ => ?_) fun ρ ⟨a, e1⟩ => ?_
  · subst e1
    top_reprB
    · rfl
    · exact ⟨_, rfl⟩
  · subst e1
    rw [prs_map]
    top_reprB
    refine norm_w (by rw [List.length_map]; omega) (prs_ok h _) fun es he => ?_
    top_reprB
    · exact he
    · exact q _ rfl
theorem law_at_most_w {sgs : List Sg} {m : Int} (hl : sgs.length < 1000) (h : ∀ s ∈ sgs, SgOk s) {Q : D → List D → Prop} (q : ∀ es, es.length = 2 → Q (eRw (rowM sgs m)) es) : PD.Wq (f__law_at_most [.list (sgs.map eSg), .int m]) Q := by
  unfold f__law_at_most m__law_at_most
  top_reprB
  refine q_lcA sgs eSg (fun ρ => ∃ a, ρ = [some (false, .list (sgs.map eSg)), some (false, .int m), a]) (fun s => ePr (s, true, -1)) (by omega) ⟨_, rfl⟩ (fun s hs ρ ⟨a, e1⟩ => ?_) fun ρ ⟨a, e1⟩ => ?_
  · subst e1
    top_reprB
    · rfl
    · exact ⟨_, rfl⟩
  · subst e1
    rw [prs_map]
    top_reprB
    refine law_norm_w (by rw [List.length_map]; omega) (prs_ok h _) fun es he => ?_
    top_reprB
    · exact he
    · exact q _ rfl
theorem law_at_least_w {sgs : List Sg} {m : Int} (hl : sgs.length < 1000) (h : ∀ s ∈ sgs, SgOk s) {Q : D → List D → Prop} (q : ∀ es, es.length = 2 → Q (eRw (rowL sgs m)) es) : PD.Wq (f__law_at_least [.list (sgs.map eSg), .int m]) Q := by
  unfold f__law_at_least m__law_at_least
  top_reprB
  refine q_lcA sgs eSg (fun ρ => ∃ a, ρ = [some (false, .list (sgs.map eSg)), some (false, .int m), a]) (fun s => ePr (s, true, 1)) (by omega) ⟨_, rfl⟩ (fun s hs ρ ⟨a, e1⟩ => ?_) fun ρ ⟨a, e1⟩ => ?_
  · subst e1
    top_reprB
    · rfl
    · exact ⟨_, rfl⟩
  · subst e1
    rw [prs_map]
    top_reprB
    refine law_norm_w (by rw [List.length_map]; omega) (prs_ok h _) fun es he => ?_
    top_reprB
    · exact he
    · exact q _ rfl
def allV (us : Ux) (xs : List Str) : List Int := xs.flatMap (domOf us)
def vals (us : Ux) (xs : List Str) : List Int := dedI (allV us xs)
theorem allV_len {us : Ux} (h : Xs us) : ∀ {xs : List Str}, (∀ x ∈ xs, x ∈ nms us) → (allV us xs).length ≤ 12 * xs.length
  | [], _ => Nat.le_refl _
  | x :: r, hx => by
    have h1 := (domOf_ok h (hx x List.mem_cons_self)).2.few
    have h2 := allV_len h (xs := r) fun u hu => hx u (List.mem_cons_of_mem _ hu)
    show (domOf us x ++ allV us r).length ≤ _
    rw [List.length_append, List.length_cons]
    omega
theorem allV_vs {us : Ux} (h : Xs us) {xs : List Str} (hx : ∀ x ∈ xs, x ∈ nms us) : ∀ v ∈ allV us xs, Vs v := fun v hv => by
  obtain ⟨x, hm, hv⟩ := List.mem_flatMap.mp hv
  exact (domOf_ok h (hx x hm)).2.vs v hv
def candV : List Int := rangeI (-3) 39 ++ (rangeI (-3) 15).map (· * 13) ++ [200, -200]
theorem vs_cand {v : Int} (h : Vs v) : v ∈ candV := by
  have hr : ∀ (lo x : Int) (n : Nat), lo ≤ x → x < lo + n → x ∈ rangeI lo n := fun lo x n h1 h2 => by
    unfold rangeI
    exact List.mem_map.mpr ⟨(x - lo).toNat, List.mem_range.mpr (by omega), by omega⟩
  unfold candV
  rcases h with ⟨h1, h2⟩ | ⟨u, rfl, h1, h2⟩ | rfl | rfl
  · exact List.mem_append_left _ (List.mem_append_left _ (hr _ _ _ h1 (by omega)))
  · exact List.mem_append_left _ (List.mem_append_right _ (List.mem_map.mpr ⟨u, hr _ _ _ h1 (by omega), rfl⟩))
  · simp
  · simp
theorem few_vs {l : List Int} (hn : l.Nodup) (hv : ∀ v ∈ l, Vs v) : l.length < 64 := by
  have := nodup_sub (L := candV) hn fun v h => vs_cand (hv v h)
  have e : candV.length = 56 := by decide +kernel
  omega
theorem vals_few {us : Ux} (h : Xs us) {xs : List Str} (hx : ∀ x ∈ xs, x ∈ nms us) : (vals us xs).length < 64 :=
  few_vs ((dedI_rise _).imp fun h => Int.ne_of_lt h) fun v hv => allV_vs h hx v (dedI_mem.mp hv)
theorem values_w {us : Ux} {xs : List Str} {d : D} (h : Xs us) (hl : xs.length < 100) (hx : ∀ x ∈ xs, x ∈ nms us) (hd : LT d (xs.map .str)) {Q : D → List D → Prop} (q : ∀ es, es.length = 2 → Q (.list ((vals us xs).map .int)) es) : PD.Wq (f_values_of [eUs us, d]) Q := by
  unfold f_values_of m_values_of
  rcases hd with rfl | rfl <;> (tb_rel; refine q_lc2.mpr ?_; top_reprB)
  all_goals
    refine q_lc2A .str (domOf us) .int (fun _ z => .int z) (fun ρ => ∃ a b d, ρ = [some (false, eUs us), some (false, d), a, b]) (fun x ρ => ∃ b d, ρ = [some (false, eUs us), some (false, d), some (false, .str x), b]) 12 xs [] _ (by simp; omega) ⟨_, _, _, rfl⟩ (fun x hm => (domOf_ok h (hx x hm)).2.few) (fun x hm ρ ⟨a, b, d, e1⟩ => ?_) (fun x hm z hz ρ ⟨b, d, e1⟩ => ?_) (fun x hm ρ ⟨b, d, e1⟩ => ?_) fun ρ ⟨a, b, d, e1⟩ => ?_
    · subst e1
      have hm := hx x hm
      top_reprB
      exact ⟨_, d, rfl⟩
    · subst e1
      top_reprB
      exact ⟨_, d, rfl⟩
    · subst e1
      exact ⟨_, _, d, rfl⟩
    · subst e1
      have e2 : ([] ++ xs.flatMap fun x => (domOf us x).map fun z => PyData.int z) = (allV us xs).map .int := by
        unfold allV
        rw [List.nil_append, List.map_flatMap]
      rw [e2]
      have h4 := allV_len h hx
      have h5 := vals_few h hx
      refine w_setSort2 (by omega) h5 ?_
      top_reprB
      exact q _ rfl
end
section
open PySem.W
theorem nd_count {l : List Int} (h : l.Nodup) (v : Int) : l.count v = if v ∈ l then 1 else 0 := by
  induction l with
  | nil => rfl
  | cons a r ih =>
    rw [List.nodup_cons] at h
    rw [List.count_cons, ih h.2]
    by_cases e : a = v
    · subst e
      simp [h.1]
    · have e' : ¬ v = a := fun z => e z.symm
      simp [e, e']
theorem dom_nd {vs : List Int} (h : DomOk vs) : vs.Nodup := h.up.imp fun h => Int.ne_of_lt h
theorem count_hvg {us : Ux} (h : Xs us) (v : Int) : ∀ {xs : List Str}, (∀ x ∈ xs, x ∈ nms us) → (allV us xs).count v = (hvg us xs v).length
  | [], _ => rfl
  | x :: r, hx => by
    have h2 := count_hvg h v (xs := r) fun u hu => hx u (List.mem_cons_of_mem _ hu)
    have h1 := nd_count (dom_nd (domOf_ok h (hx x List.mem_cons_self)).2) v
    show (domOf us x ++ allV us r).count v = _
    rw [List.count_append, h1, h2]
    unfold hvg hv
    rw [List.length_map, List.length_map, List.filter_cons]
    by_cases e : v ∈ domOf us x
    · simp [e]; omega
    · simp [e]
def lots (us : Ux) (xs : List Str) : List Int := (vals us xs).filter fun v => decide (1 < ((hvg us xs v).length : Int))
def rowsU (us : Ux) (xs : List Str) : List Rw := (lots us xs).map fun v => rowM (hvg us xs v) 1
def eXs (xs : List Str) : D := .tuple (xs.map .str)
local macro_rules | `(tactic| allgen_close_more) => `(tactic| first
  | (with_reducible refine w_domE ?h1 ?h2 ?_; (case h1 => assumption); (case h2 => assumption))
  | (with_reducible refine w_hv ?_))
theorem tell_unlike_w {us : Ux} {xs : List Str} {s : D} (h : Xs us) (hl : xs.length < 100) (hx : ∀ x ∈ xs, x ∈ nms us) {Q : D → List D → Prop} (q : ∀ es, es.length = 3 → Q (.list ((rowsU us xs).map eRw)) es) : PD.Wq (f_tell_unlike [eUs us, s, .tuple [.str "unlike", eXs xs]]) Q := by
  have h64 := vals_few h hx
  unfold f_tell_unlike m_tell_unlike eXs at *
  top_reprB
  refine values_w h hl hx (.inr rfl) fun es he => ?_
  top_reprB
  · exact he
  refine q_lcA (vals us xs) .int (fun ρ => ∃ a b c, ρ = [some (false, eUs us), some (false, s), some (false, .tuple [.str "unlike", .tuple (xs.map .str)]), a, b, c]) (fun v => .list ((hvg us xs v).map eSg)) (by omega) ⟨_, _, _, rfl⟩ (fun v hv ρ ⟨a, b, c, e1⟩ => ?_) fun ρ ⟨a, b, c, e1⟩ => ?_
  · subst e1
    top_reprB
    refine having_w h (by omega) hx (.inr rfl) fun es he => ?_
    top_reprB
    · exact he
    · exact ⟨_, _, _, rfl⟩
  · subst e1
    top_reprB
    refine q_lcM (vals us xs) (fun v => .list ((hvg us xs v).map eSg)) (fun ρ => ∃ a b c, ρ = [some (false, eUs us), some (false, s), some (false, .tuple [.str "unlike", .tuple (xs.map .str)]), a, b, c]) (fun v => decide (1 < ((hvg us xs v).length : Int))) (fun v => eRw (rowM (hvg us xs v) 1)) (by omega) ⟨_, _, _, rfl⟩ (fun v hv ρ ⟨a, b, c, e1⟩ => ?_) fun ρ ⟨a, b, c, e1⟩ => ?_
    · subst e1
      have h1 := hvg_len us xs v
      have h2 := hvg_ok h hx v
      top_reprB
      · rw [List.length_map]
      · refine at_most_w (by omega) h2 fun es he => ?_
        top_reprB
        · exact he
        · exact ⟨_, _, _, rfl⟩
      · exact ⟨_, _, _, rfl⟩
    · subst e1
      top_reprB
      rw [show ((vals us xs).filter fun v => decide (1 < ((hvg us xs v).length : Int))).map (fun v => eRw (rowM (hvg us xs v) 1)) = (rowsU us xs).map eRw by unfold rowsU lots; rw [List.map_map]; rfl]
      exact q _ rfl
structure Met (l : List (Int × Int)) (ns : List Int) : Prop where
  nd : (l.map (·.1)).Nodup
  at_ : ∀ z, getM l z = if z ∈ ns then some ((ns.count z : Nat) : Int) else none
theorem Met.keys {l : List (Int × Int)} {ns : List Int} (h : Met l ns) (z : Int) : z ∈ l.map (·.1) ↔ z ∈ ns := by
  rw [← getM_isSome, h.at_]
  by_cases e : z ∈ ns <;> simp [e]
theorem Met.put {l : List (Int × Int)} {ns : List Int} (h : Met l ns) (z : Int) : Met (putM l z ((getM l z).getD 0 + 1)) (ns ++ [z]) := by
  refine ⟨putM_nd h.nd _ _, fun y => ?_⟩
  rw [getM_put, h.at_, h.at_]
  by_cases e : y = z
  · subst e
    by_cases e2 : y ∈ ns
    · simp [e2, List.count_append]
    · simp [e2, List.count_append, List.count_eq_zero_of_not_mem e2]
  · have e' : ¬ z = y := fun q => e q.symm
    by_cases e2 : y ∈ ns
    · simp [e, e2, List.count_append, List.count_singleton, e']
    · simp [e, e2]
theorem Met.len {l : List (Int × Int)} {ns : List Int} (h : Met l ns) : l.length ≤ ns.length := by
  have := nodup_sub h.nd fun x hx => (h.keys x).mp hx
  rwa [List.length_map] at this
theorem Met.few {l : List (Int × Int)} {ns : List Int} (h : Met l ns) (hv : ∀ v ∈ ns, Vs v) : l.length < 64 := by
  have := few_vs h.nd fun v hm => hv v ((h.keys v).mp hm)
  rwa [List.length_map] at this
theorem Met.sort {l : List (Int × Int)} {ns : List Int} (h : Met l ns) : PD.sortI (l.map (·.1)) = dedI ns := sort_ded h.nd h.keys
theorem getD_int (o : Option Int) : (o.map PyData.int).getD (.int 0) = .int (o.getD 0) := by cases o <;> rfl
theorem w_putII {l : List (Int × Int)} {k v : Int} {Q : D → Prop} (h : l.length < 16777216) (q : Q (.dict (kvM .int .int (putM l k v)))) : Wp (gPut (.dict (kvM .int .int l)) (.int k) (.int v)) Q := w_putMI (ev := PyData.int) h q
theorem Met.some {l : List (Int × Int)} {ns : List Int} (h : Met l ns) {z : Int} (hz : z ∈ ns) : getM l z = some ((ns.count z : Nat) : Int) := by rw [h.at_, if_pos hz]
theorem Met.nil : Met [] [] := ⟨List.nodup_nil, fun z => by simp [getM_nil]⟩
local macro_rules | `(tactic| allgen_close_more) => `(tactic| first
  | (simp -dsimp only [isT_MI, dget_MI, getD_int])
  | (with_reducible refine w_putII ?hh ?_; (case hh => assumption))
  | (with_reducible refine w_domE ?h1 ?h2 ?_; (case h1 => assumption); (case h2 => assumption))
  | (with_reducible refine w_hv ?_))
theorem law_unlike_w {us : Ux} {xs : List Str} (h : Xs us) (hl : xs.length < 100) (hx : ∀ x ∈ xs, x ∈ nms us) {Q : D → List D → Prop} (q : ∀ es, es.length = 2 → Q (.list ((rowsU us xs).map eRw)) es) : PD.Wq (f__law_unlike_rows [eUs us, .tuple (xs.map .str)]) Q := by
  have h64 := vals_few h hx
  unfold f__law_unlike_rows m__law_unlike_rows
  top_reprB
  refine W_forM xs .str (fun pre ρ => ∃ (l : List (Int × Int)) (a b c : Option (Bool × D)), ρ = [some (false, eUs us), some (false, .tuple (xs.map .str)), some (true, .dict (kvM .int .int l)), a, b, c] ∧ Met l (allV us pre)) ⟨[], _, _, _, rfl, Met.nil⟩ (fun pre x post ρ hx2 ⟨l, a, b, c, e1, e2⟩ => ?_) fun ρ ⟨l, a, b, c, e1, e2⟩ => ?_
  · subst e1
    have hm : x ∈ nms us := hx x (by rw [hx2]; simp)
    top_reprB
    refine W_forM (domOf us x) .int (fun p2 ρ => ∃ (l : List (Int × Int)) (b : Option (Bool × D)), ρ = [some (false, eUs us), some (false, .tuple (xs.map .str)), some (true, .dict (kvM .int .int l)), some (false, .str x), b, c] ∧ Met l (allV us pre ++ p2)) ⟨l, _, rfl, by simpa using e2⟩ (fun p2 z post2 ρ hx3 ⟨l, b, e1, e2⟩ => ?_) fun ρ ⟨l, b, e1, e2⟩ => ?_
    · subst e1
      have hlen : l.length < 16777216 := by
        have := e2.few fun v hv => by
          rcases List.mem_append.mp hv with hv | hv
          · exact allV_vs h (fun u hu => hx u (by rw [hx2]; exact List.mem_append_left _ hu)) v hv
          · exact (domOf_ok h hm).2.vs v (by rw [hx3]; exact List.mem_append_left _ hv)
        omega
      top_reprB
      exact ⟨_, _, rfl, by rw [← List.append_assoc]; exact e2.put z⟩
    · subst e1
      top_reprB
      exact ⟨l, _, _, _, rfl, by unfold allV at *; rw [List.flatMap_append]; simpa using e2⟩
  · subst e1
    have hf := e2.few (allV_vs h hx)
    top_reprB
    refine w_s4of2 (w_sortedMI hf ?_)
    rw [e2.sort]
    top_reprB
    refine W_forM (vals us xs) .int (fun pre ρ => ∃ (a b : Option (Bool × D)), ρ = [some (false, eUs us), some (false, .tuple (xs.map .str)), some (true, .dict (kvM .int .int l)), a, b, some (true, .list (((pre.filter fun v => decide (1 < ((hvg us xs v).length : Int))).map fun v => rowM (hvg us xs v) 1).map eRw))] ∧ pre.length ≤ 64) ⟨_, _, rfl, by decide⟩ (fun pre v post ρ hx2 ⟨a, b, e1, e3⟩ => ?_) fun ρ ⟨a, b, e1, e3⟩ => ?_
    · subst e1
      have hlen := congrArg List.length hx2
      rw [List.length_append, List.length_cons] at hlen
      have hvm : v ∈ allV us xs := dedI_mem.mp (show v ∈ vals us xs by rw [hx2]; simp)
      have hg := e2.some hvm
      rw [count_hvg h v hx] at hg
      have h1 := hvg_len us xs v
      have h2 := hvg_ok h hx v
      have h3 : ((pre.filter fun v => decide (1 < ((hvg us xs v).length : Int)))).length ≤ pre.length := List.length_filter_le ..
      top_reprB
      · rename_i hgt
        refine q_lcM xs .str (fun ρ => ∃ a, ρ = [some (false, eUs us), some (false, .tuple (xs.map .str)), some (true, .dict (kvM .int .int l)), a, some (false, .int v), some (true, .list (((pre.filter fun v => decide (1 < ((hvg us xs v).length : Int))).map fun v => rowM (hvg us xs v) 1).map eRw))]) (hv us v) (fun x => eSg (isS v x)) (by omega) ⟨_, rfl⟩ (fun x hx' ρ ⟨a, e1⟩ => ?_) fun ρ ⟨a, e1⟩ => ?_
        · subst e1
          have hm := hx x hx'
          top_reprB
          all_goals first
            | rfl
            | exact ⟨_, rfl⟩
        · subst e1
          rw [show (xs.filter (hv us v)).map (fun x => eSg (isS v x)) = (hvg us xs v).map eSg by unfold hvg; rw [List.map_map]; rfl]
          top_reprB
          refine law_at_most_w (by omega) h2 fun es he => ?_
          top_reprB
          · exact he
          · refine ⟨none, some (false, .int v), ?_, by rw [List.length_append, List.length_singleton]; omega⟩
            rw [List.filter_append, List.filter_cons_of_pos (by simpa using hgt), List.filter_nil, List.map_append, List.map_append]
            rfl
      · refine ⟨a, some (false, .int v), ?_, by rw [List.length_append, List.length_singleton]; omega⟩
        rename_i hgt
        rw [List.filter_append, List.filter_cons_of_neg (by simpa using hgt), List.filter_nil, List.append_nil]
    · subst e1
      top_reprB
      exact q _ rfl
def eTr (t : Int × Int × Int) : D := .tuple [.int t.1, .int t.2.1, .int t.2.2]
def rowsC1 (us : Ux) (xs : List Str) (t : Int × Int × Int) : List Rw := [rowL (hvg us xs t.1) t.2.1, rowM (hvg us xs t.1) t.2.2]
def rowsC (us : Ux) (xs : List Str) (tr : List (Int × Int × Int)) : List Rw := tr.flatMap (rowsC1 us xs)
theorem rowsC_len (us : Ux) (xs : List Str) : ∀ tr : List (Int × Int × Int), (rowsC us xs tr).length = 2 * tr.length
  | [] => rfl
  | t :: r => by
    show (rowsC1 us xs t ++ rowsC us xs r).length = _
    rw [List.length_append, rowsC_len us xs r, List.length_cons]
    show 2 + _ = _
    omega
theorem rowsC_snoc (us : Ux) (xs : List Str) (tr : List (Int × Int × Int)) (t : Int × Int × Int) : (rowsC us xs (tr ++ [t])).map eRw = (rowsC us xs tr).map eRw ++ [eRw (rowL (hvg us xs t.1) t.2.1), eRw (rowM (hvg us xs t.1) t.2.2)] := by
  unfold rowsC
  rw [List.flatMap_append, List.map_append]
  simp [rowsC1]
local macro_rules | `(tactic| allgen_close_more) => `(tactic| first
  | (simp -dsimp only [eTr])
  | (with_reducible refine w_domE ?h1 ?h2 ?_; (case h1 => assumption); (case h2 => assumption))
  | (with_reducible refine w_hv ?_))
theorem tell_counts_w {us : Ux} {xs : List Str} {tr : List (Int × Int × Int)} {s : D} (h : Xs us) (hl : xs.length < 100) (hl2 : tr.length < 1000) (hx : ∀ x ∈ xs, x ∈ nms us) {Q : D → List D → Prop} (q : ∀ es, es.length = 3 → Q (.list ((rowsC us xs tr).map eRw)) es) : PD.Wq (f_tell_counts [eUs us, s, .tuple [.str "counts", eXs xs, .tuple (tr.map eTr)]]) Q := by
  unfold f_tell_counts m_tell_counts eXs at *
  top_reprB
  refine W_forM tr eTr (fun pre ρ => ∃ (a b c d : Option (Bool × D)), ρ = [some (false, eUs us), some (false, s), some (false, .tuple [.str "counts", .tuple (xs.map .str), .tuple (tr.map eTr)]), some (true, .list ((rowsC us xs pre).map eRw)), a, b, c, d]) ⟨_, _, _, _, rfl⟩ (fun pre t post ρ hx2 ⟨a, b, c, d, e1⟩ => ?_) fun ρ ⟨a, b, c, d, e1⟩ => ?_
  · subst e1
    have hlen := congrArg List.length hx2
    rw [List.length_append, List.length_cons] at hlen
    have h1 := hvg_len us xs t.1
    have h2 := hvg_ok h hx t.1
    have h3 := rowsC_len us xs pre
    top_reprB
    refine having_w h (by omega) hx (.inr rfl) fun es he => ?_
    top_reprB
    · exact he
    refine at_least_w (by omega) h2 fun es he => ?_
    top_reprB
    · exact he
    refine at_most_w (by omega) h2 fun es he => ?_
    top_reprB
    · exact he
    exact ⟨_, _, _, _, by rw [rowsC_snoc]⟩
  · subst e1
    top_reprB
    exact q _ rfl
theorem law_counts_w {us : Ux} {xs : List Str} {tr : List (Int × Int × Int)} (h : Xs us) (hl : xs.length < 100) (hl2 : tr.length < 1000) (hx : ∀ x ∈ xs, x ∈ nms us) {Q : D → List D → Prop} (q : ∀ es, es.length = 3 → Q (.list ((rowsC us xs tr).map eRw)) es) : PD.Wq (f__law_counts_rows [eUs us, .tuple (xs.map .str), .tuple (tr.map eTr)]) Q := by
  unfold f__law_counts_rows m__law_counts_rows
  top_reprB
  refine W_forM tr eTr (fun pre ρ => ∃ (a b c d e : Option (Bool × D)), ρ = [some (false, eUs us), some (false, .tuple (xs.map .str)), some (false, .tuple (tr.map eTr)), some (false, .list ((rowsC us xs pre).map eRw)), a, b, c, d, e]) ⟨_, _, _, _, _, rfl⟩ (fun pre t post ρ hx2 ⟨a, b, c, d, e, e1⟩ => ?_) fun ρ ⟨a, b, c, d, e, e1⟩ => ?_
  · subst e1
    have hlen := congrArg List.length hx2
    rw [List.length_append, List.length_cons] at hlen
    have h1 := hvg_len us xs t.1
    have h2 := hvg_ok h hx t.1
    have h3 := rowsC_len us xs pre
    top_reprB
    refine q_lcM xs .str (fun ρ => ∃ a d, ρ = [some (false, eUs us), some (false, .tuple (xs.map .str)), some (false, .tuple (tr.map eTr)), some (false, .list ((rowsC us xs pre).map eRw)), some (false, .int t.1), some (false, .int t.2.1), some (false, .int t.2.2), d, a]) (hv us t.1) (fun x => eSg (isS t.1 x)) (by omega) ⟨_, _, rfl⟩ (fun x hx' ρ ⟨a, d, e1⟩ => ?_) fun ρ ⟨a, d, e1⟩ => ?_
    · subst e1
      have hm := hx x hx'
      top_reprB
      all_goals first
        | rfl
        | exact ⟨_, d, rfl⟩
    · subst e1
      rw [show (xs.filter (hv us t.1)).map (fun x => eSg (isS t.1 x)) = (hvg us xs t.1).map eSg by unfold hvg; rw [List.map_map]; rfl]
      top_reprB
      refine law_at_least_w (by omega) h2 fun es he => ?_
      top_reprB
      · exact he
      refine law_at_most_w (by omega) h2 fun es he => ?_
      top_reprB
      · exact he
      exact ⟨_, _, _, _, _, by rw [rowsC_snoc]⟩
  · subst e1
    top_reprB
    exact q _ rfl
end
section
open PySem.W
inductive Up where
  | never | always | fr (u : Int)
def upOf (vs : List Int) (v : Int) : Up := match vs.find? fun u => decide (v ≤ u) with
  | none => .never
  | some u => if u = vs.getD 0 0 then .always else .fr u
def eUp (x : Str) : Up → D
  | .never => .bool false
  | .always => .bool true
  | .fr u => .tuple [.str "from", .str x, .int u]
def eLf (x : Str) : Up → D
  | .never => .str "never"
  | .always => .str "always"
  | .fr u => .tuple [.str "from", .str x, .int u]
theorem up_some {vs pre post : List Int} {v u : Int} (h : vs = pre ++ u :: post) (h1 : ∀ a ∈ pre, a < v) (h2 : v ≤ u) (hn : vs.Nodup) : upOf vs v = if pre.length = 0 then .always else .fr u := by
  have e : (vs.find? fun u => decide (v ≤ u)) = some u := by
    rw [List.find?_eq_some_iff_append]
    exact ⟨by simpa using h2, pre, post, h, fun a ha => by have := h1 a ha; simp; omega⟩
  unfold upOf
  rw [e]
  cases pre with
  | nil => simp [h]
  | cons a r =>
    have hne : u ≠ vs.getD 0 0 := by
      rw [h]
      rw [h] at hn
      simp only [List.cons_append, List.nodup_cons] at hn
      intro e
      have e : u = a := e
      exact hn.1 (by rw [← e]; simp)
    show (if u = vs.getD 0 0 then Up.always else .fr u) = _
    rw [if_neg hne]
    rfl
theorem up_none {vs : List Int} {v : Int} (h : ∀ a ∈ vs, a < v) : upOf vs v = .never := by
  have e : (vs.find? fun u => decide (v ≤ u)) = none := by
    rw [List.find?_eq_none]
    intro a ha
    have := h a ha
    simp; omega
  unfold upOf
  rw [e]
local macro_rules | `(tactic| allgen_close_more) => `(tactic| first
  | (with_reducible refine w_domE ?h1 ?h2 ?_; (case h1 => assumption); (case h2 => assumption)))
theorem upward_w {us : Ux} {x : Str} {v : Int} (h : Xs us) (hx : x ∈ nms us) {Q : D → List D → Prop} (q : ∀ es, es.length = 3 → Q (eUp x (upOf (domOf us x) v)) es) : PD.Wq (f_upward [eUs us, .str x, .int v]) Q := by
  have hd := (domOf_ok h hx).2
  have hnd := dom_nd hd
  unfold f_upward m_upward
  top_reprB
  refine wen (f := PyData.int) rfl ?_
  refine W_forM _ (fun p : Nat × Int => PyData.tuple [.int (p.1 : Nat), .int p.2]) (fun pre ρ => ∃ (a b : Option (Bool × D)), ρ = [some (false, eUs us), some (false, .str x), some (false, .int v), a, b] ∧ ∀ p ∈ pre, p.2 < v) ⟨_, _, rfl, by simp⟩ (fun pre p post ρ hz ⟨a, b, e1, e2⟩ => ?_) fun ρ ⟨a, b, e1, e2⟩ => ?_
  · subst e1
    have e3 := congrArg (List.map (·.2)) hz
    rw [List.map_snd_zip (by simp), List.map_append, List.map_cons] at e3
    have e4 : p.1 = pre.length := by
      have := congrArg (List.map (·.1)) hz
      rw [List.map_fst_zip (by simp), List.map_append, List.map_cons] at this
      have := congrArg (fun l : List Nat => l[pre.length]?) this
      simp only [List.getElem?_append_right (show (pre.map (·.1)).length ≤ pre.length by simp)] at this
      rw [List.getElem?_range (by
        have h := congrArg List.length e3
        simp only [List.length_append, List.length_map, List.length_cons] at h
        omega)] at this
      simpa using this.symm
    have key := fun hge : v ≤ p.2 => up_some e3 (fun a ha => by
      obtain ⟨z, hz, rfl⟩ := List.mem_map.mp ha
      exact e2 z hz) hge hnd
    top_reprB
    · rename_i h1 h2
      have k2 := key h1
      rw [if_pos (by rw [List.length_map]; omega)] at k2
      rw [k2] at q
      exact q _ rfl
    · rename_i h1 h2
      have k2 := key h1
      rw [if_neg (by rw [List.length_map]; omega)] at k2
      rw [k2] at q
      exact q _ rfl
    · rename_i h1
      refine ⟨_, _, rfl, fun z hz => ?_⟩
      rcases List.mem_append.mp hz with hz | hz
      · exact e2 z hz
      · rw [List.mem_singleton.mp hz]; omega
  · subst e1
    have e3 : upOf (domOf us x) v = .never := up_none fun a ha => by
      rw [← List.map_snd_zip (l₁ := List.range (domOf us x).length) (l₂ := domOf us x) (by simp)] at ha
      obtain ⟨z, hz, rfl⟩ := List.mem_map.mp ha
      exact e2 z hz
    rw [e3] at q
    top_reprB
    exact q _ rfl
theorem law_from_w {us : Ux} {x : Str} {v : Int} (h : Xs us) (hx : x ∈ nms us) {Q : D → List D → Prop} (q : ∀ es, es.length = 3 → Q (eLf x (upOf (domOf us x) v)) es) : PD.Wq (f__law_from [eUs us, .str x, .int v]) Q := by
  have hd := (domOf_ok h hx).2
  have hne := hd.ne
  have hfew := hd.few
  unfold f__law_from m__law_from
  top_reprB
  refine q_lcM (domOf us x) .int (fun ρ => ∃ a b, ρ = [some (false, eUs us), some (false, .str x), some (false, .int v), a, b]) (fun u => decide (v ≤ u)) .int (by omega) ⟨_, _, rfl⟩ (fun u hu ρ ⟨a, b, e1⟩ => ?_) fun ρ ⟨a, b, e1⟩ => ?_
  · subst e1
    top_reprB
    · exact ⟨_, _, rfl⟩
    · exact ⟨_, _, rfl⟩
  · subst e1
    have hh := List.head?_filter (p := fun u => decide (v ≤ u)) (l := domOf us x)
    generalize (domOf us x).filter (fun u => decide (v ≤ u)) = fs at hh
    have hf : ∀ {y}, fs.head? = some y → upOf (domOf us x) v = if y = (domOf us x).getD 0 0 then .always else .fr y := fun {y} e => by
      unfold upOf
      rw [← hh, e]
    cases fs with
    | nil =>
      have e3 : upOf (domOf us x) v = .never := by unfold upOf; rw [← hh]; rfl
      rw [e3] at q
      top_reprB
      refine w_eqNilI (ns := []) ?_
      top_reprB
      · exact q _ rfl
      · rename_i h1; simp at h1
    | cons y r =>
      have e3 := hf rfl
      top_reprB
      refine w_eqNilI (ns := y :: r) ?_
      top_reprB
      · rename_i h1; simp at h1
      · rename_i h1 z g1 h2
        rw [if_pos (by rw [get_getD (k := 0) g1 rfl, h2])] at e3
        rw [e3] at q
        exact q _ rfl
      · rename_i h1 z g1 h2
        rw [if_neg (by rw [get_getD (k := 0) g1 rfl]; exact h2)] at e3
        rw [e3] at q
        exact q _ rfl
def upn (u : Up) (w : Int) : Int := match u with
  | .always => w
  | _ => 0
def upp (x : Str) (u : Up) (w : Int) : List Pr := match u with
  | .fr u => [(⟨"from", x, [u]⟩, true, w)]
  | _ => []
theorem upp_len (x : Str) (u : Up) (w : Int) : (upp x u w).length ≤ 1 := by cases u <;> simp [upp]
theorem upp_ok {us : Ux} {x : Str} (h : Xs us) (hx : x ∈ nms us) (u : Up) (w : Int) : ∀ p ∈ upp x u w, SgOk p.1 := fun p hp => by
  cases u with
  | fr u =>
    rw [List.mem_singleton.mp hp]
    exact from_ok h hx _
  | _ => cases hp
theorem upward_pairs_w {us : Ux} {x : Str} {v w : Int} (h : Xs us) (hx : x ∈ nms us) {Q : D → List D → Prop} (q : ∀ es, es.length = 4 → Q (.tuple [.int (upn (upOf (domOf us x) v) w), .list ((upp x (upOf (domOf us x) v) w).map ePr)]) es) : PD.Wq (f_upward_pairs [eUs us, .str x, .int v, .int w]) Q := by
  unfold f_upward_pairs m_upward_pairs
  top_reprB
  refine upward_w h hx fun es he => ?_
  generalize upOf (domOf us x) v = u at q ⊢
  cases u <;> (simp only [eUp]; top_reprB)
  all_goals first
    | exact he
    | exact q _ rfl
end
section
open PySem.W
theorem W_forNil {g : D → Rho → Option Rho} {mb : MS} {ρ : Rho} {Q : Out → Prop} (q : Q (.nx ρ)) : Wp (mForL g mb [] ρ) Q := ⟨_, rfl, q⟩
theorem W_forCons {g : D → Rho → Option Rho} {mb : MS} {ρ : Rho} {d : D} {r : List D} {Q : Out → Prop} (h : Wp (g d ρ) fun ρ1 => Wp (mb ρ1) (forQ (fun ρ2 => Wp (mForL g mb r ρ2) Q) Q)) : Wp (mForL g mb (d :: r) ρ) Q := by
  obtain ⟨ρ1, e1, o, e2, h⟩ := h
  unfold mForL
  simp only [e1, e2]
  cases o <;> exact (by first | exact h | exact ⟨_, rfl, h⟩)
abbrev Wk := Str × Int × Int
def eWk (ws : List Wk) (room : Int) : D := .tuple [.str "works", .tuple (ws.map fun k => .str k.1), .tuple (ws.map fun k => .int k.2.1), .tuple (ws.map fun k => .int k.2.2), .int room]
def up1 (us : Ux) (t : Int) (k : Wk) : Up := upOf (domOf us k.1) (t - k.2.1 + 1)
def up2 (us : Ux) (t : Int) (k : Wk) : Up := upOf (domOf us k.1) (t + 1)
def wps (us : Ux) (t : Int) (k : Wk) : List Pr := upp k.1 (up1 us t k) (-k.2.2) ++ upp k.1 (up2 us t k) k.2.2
def wprs (us : Ux) (t : Int) (ws : List Wk) : List Pr := ws.flatMap (wps us t)
def wlst (us : Ux) (t : Int) (ws : List Wk) (n : Int) : Int := ws.foldl (fun n k => n - upn (up1 us t k) (-k.2.2) - upn (up2 us t k) k.2.2) n
def wxs (ws : List Wk) : List Str := ws.map (·.1)
def rowW (us : Ux) (ws : List Wk) (room t : Int) : Rw := rowN (wprs us t ws) (wlst us t ws (-room))
def rowsW (us : Ux) (ws : List Wk) (room : Int) : List Rw := (vals us (wxs ws)).map (rowW us ws room)
theorem wprs_snoc (us : Ux) (t : Int) (ws : List Wk) (k : Wk) : wprs us t (ws ++ [k]) = wprs us t ws ++ wps us t k := by unfold wprs; rw [List.flatMap_append]; simp
theorem wlst_snoc (us : Ux) (t : Int) (ws : List Wk) (k : Wk) (n : Int) : wlst us t (ws ++ [k]) n = wlst us t ws n - upn (up1 us t k) (-k.2.2) - upn (up2 us t k) k.2.2 := by unfold wlst; rw [List.foldl_append]; rfl
theorem wps_len (us : Ux) (t : Int) (k : Wk) : (wps us t k).length ≤ 2 := by
  unfold wps
  have h1 := upp_len k.1 (up1 us t k) (-k.2.2)
  have h2 := upp_len k.1 (up2 us t k) k.2.2
  rw [List.length_append]
  omega
theorem wprs_len (us : Ux) (t : Int) : ∀ ws : List Wk, (wprs us t ws).length ≤ 2 * ws.length
  | [] => Nat.le_refl _
  | k :: r => by
    have h1 := wps_len us t k
    have h2 := wprs_len us t r
    show (wps us t k ++ wprs us t r).length ≤ _
    rw [List.length_append, List.length_cons]
    omega
theorem wprs_ok {us : Ux} (h : Xs us) {ws : List Wk} (hx : ∀ k ∈ ws, k.1 ∈ nms us) (t : Int) : ∀ p ∈ wprs us t ws, SgOk p.1 := fun p hp => by
  obtain ⟨k, hk, hp⟩ := List.mem_flatMap.mp hp
  rcases List.mem_append.mp hp with hp | hp
  · exact upp_ok h (hx k hk) _ _ p hp
  · exact upp_ok h (hx k hk) _ _ p hp
theorem zip_same {α : Type} : ∀ l : List α, l.zip (l.zip l) = l.map fun k => (k, k, k)
  | [] => rfl
  | k :: r => congrArg (_ :: ·) (zip_same r)
theorem wxs_mem {us : Ux} {ws : List Wk} (hx : ∀ k ∈ ws, k.1 ∈ nms us) : ∀ x ∈ wxs ws, x ∈ nms us := fun x h => by
  obtain ⟨k, hk, rfl⟩ := List.mem_map.mp h
  exact hx k hk
theorem putBack_n4 {ds : List D} {ρ : Rho} : putBack [none, none, none, none] ds ρ = ρ := by
  match ds with
  | [] => rfl
  | _ :: ds => exact putBack_n3
local macro_rules | `(tactic| allgen_close_more) => `(tactic| first
  | (simp -dsimp only [q_parN])
  | (with_reducible refine W_forCons ?_)
  | (with_reducible refine W_forNil ?_)
  | (with_reducible refine w_domE ?h1 ?h2 ?_; (case h1 => assumption); (case h2 => assumption))
  | ((with_reducible refine upward_pairs_w ?h1 ?h2 ?_); (case h1 => assumption); (case h2 => assumption); intro _ he; refine ⟨he, ?_⟩; rw [putBack_n4])
  | ((with_reducible refine law_from_w ?h1 ?h2 ?_); (case h1 => assumption); (case h2 => assumption); intro _ he; refine ⟨he, ?_⟩))
theorem tell_works_w {us : Ux} {ws : List Wk} {room : Int} {s : D} (h : Xs us) (hl : ws.length < 100) (hx : ∀ k ∈ ws, k.1 ∈ nms us) {Q : D → List D → Prop} (q : ∀ es, es.length = 3 → Q (.list ((rowsW us ws room).map eRw)) es) : PD.Wq (f_tell_works [eUs us, s, eWk ws room]) Q := by
  have hxs := wxs_mem hx
  have h64 := vals_few h hxs
  have e0 : (ws.map fun k => PyData.str k.1) = (wxs ws).map .str := by unfold wxs; rw [List.map_map]; rfl
  unfold f_tell_works m_tell_works eWk at *
  top_reprB
  rw [e0]
  refine values_w h (by unfold wxs; rw [List.length_map]; exact hl) hxs (.inr rfl) fun es he => ?_
  top_reprB
  · exact he
  refine W_forM (vals us (wxs ws)) .int (fun pre ρ => ∃ (a b c d e f g i j k : Option (Bool × D)), ρ = [some (false, eUs us), some (false, s), some (false, eWk ws room), some (true, .list ((pre.map (rowW us ws room)).map eRw)), a, b, c, d, e, f, g, i, j, k]) ⟨_, _, _, _, _, _, _, _, _, _, by rw [← e0]; rfl⟩ (fun pre t post ρ hz ⟨a, b, c, d, e, f, g, i, j, k, e1⟩ => ?_) fun ρ ⟨a, b, c, d, e, f, g, i, j, k, e1⟩ => ?_
  · subst e1
    have hlen := congrArg List.length hz
    rw [List.length_append, List.length_cons] at hlen
    unfold eWk
    top_reprB
    refine wz3 (f := fun k : Wk => PyData.str k.1) (g := fun k : Wk => PyData.int k.2.1) (h := fun k : Wk => PyData.int k.2.2) rfl rfl rfl ?_
    rw [zip_same, List.map_map]
    refine W_forM ws (fun k : Wk => PyData.tuple [.str k.1, .int k.2.1, .int k.2.2]) (fun p2 ρ => ∃ (a b c d e f g : Option (Bool × D)), ρ = [some (false, eUs us), some (false, s), some (false, eWk ws room), some (true, .list ((pre.map (rowW us ws room)).map eRw)), some (false, .int t), some (true, .list ((wprs us t p2).map ePr)), some (false, .int (wlst us t p2 (-room))), a, b, c, d, e, f, g]) ⟨_, _, _, _, _, _, _, rfl⟩ (fun p2 k post2 ρ hz2 ⟨a, b, c, d, e, f, g, e1⟩ => ?_) fun ρ ⟨a, b, c, d, e, f, g, e1⟩ => ?_
    · subst e1
      have hlen2 := congrArg List.length hz2
      rw [List.length_append, List.length_cons] at hlen2
      have hk : k.1 ∈ nms us := hx k (by rw [hz2]; simp)
      have h1 := wprs_len us t p2
      have h2 := upp_len k.1 (up1 us t k) (-k.2.2)
      have h3 := upp_len k.1 (up2 us t k) k.2.2
      unfold up1 at h2
      unfold up2 at h3
      top_reprB
      have e1 : (wprs us t (p2 ++ [k])).map ePr = (wprs us t p2).map ePr ++ (upp k.1 (upOf (domOf us k.1) (t - k.2.1 + 1)) (-k.2.2)).map ePr ++ (upp k.1 (upOf (domOf us k.1) (t + 1)) k.2.2).map ePr := by
        rw [wprs_snoc]
        unfold wps up1 up2
        simp only [List.map_append, List.append_assoc]
      exact ⟨_, _, _, _, _, _, _, by rw [e1, wlst_snoc]; unfold up1 up2; rfl⟩
    · subst e1
      have h1 := wprs_len us t ws
      top_reprB
      refine norm_w (by omega) (wprs_ok h hx t) fun es he => ?_
      top_reprB
      · exact he
      exact ⟨_, _, _, _, _, _, _, _, _, _, by rw [List.map_append, List.map_append]; rfl⟩
  · subst e1
    top_reprB
    exact q _ rfl
structure Seen (l : List (Int × Bool)) (ns : List Int) : Prop where
  nd : (l.map (·.1)).Nodup
  mem : ∀ z, z ∈ l.map (·.1) ↔ z ∈ ns
theorem Seen.put {l : List (Int × Bool)} {ns : List Int} (h : Seen l ns) (z : Int) (b : Bool) : Seen (putM l z b) (ns ++ [z]) := by
  refine ⟨putM_nd h.nd _ _, fun y => ?_⟩
  rw [putM_key, h.mem, List.mem_append, List.mem_singleton]
  exact or_comm
theorem Seen.few {l : List (Int × Bool)} {ns : List Int} (h : Seen l ns) (hv : ∀ v ∈ ns, Vs v) : l.length < 64 := by
  have := few_vs h.nd fun v hm => hv v ((h.mem v).mp hm)
  rwa [List.length_map] at this
theorem Seen.sort {l : List (Int × Bool)} {ns : List Int} (h : Seen l ns) : PD.sortI (l.map (·.1)) = dedI ns := sort_ded h.nd h.mem
theorem Seen.nil : Seen [] [] := ⟨List.nodup_nil, fun z => Iff.rfl⟩
theorem w_putIB {l : List (Int × Bool)} {k : Int} {v : Bool} {Q : D → Prop} (h : l.length < 16777216) (q : Q (.dict (kvM .int .bool (putM l k v)))) : Wp (gPut (.dict (kvM .int .bool l)) (.int k) (.bool v)) Q := w_putMI (ev := PyData.bool) h q
theorem w_lfEq {us : Ux} {x : Str} {u : Up} {z : Str} (h : Xs us) (hx : x ∈ nms us) (hz : PyData.strOk z = true) {Q : D → Prop} (q : Q (.bool (PyData.eqv (eLf x u) (.str z)))) : Wp (gEq (eLf x u) (.str z)) Q := by
  refine ⟨_, if_pos ?_, q⟩
  have h1 : okM 2 (eLf x u) := by
    cases u with
    | never => exact okM_str _ (by decide +kernel)
    | always => exact okM_str _ (by decide +kernel)
    | fr v => exact (okM_sg (from_ok h hx v)).mono (by decide)
  rw [h1.okE (by decide), (okM_str 1 hz).okE (by decide)]; rfl
theorem w_lfNe {us : Ux} {x : Str} {u : Up} {z : Str} (h : Xs us) (hx : x ∈ nms us) (hz : PyData.strOk z = true) {Q : D → Prop} (q : Q (.bool (!PyData.eqv (eLf x u) (.str z)))) : Wp (gNe (eLf x u) (.str z)) Q := by
  refine ⟨_, if_pos ?_, q⟩
  have h1 : okM 2 (eLf x u) := by
    cases u with
    | never => exact okM_str _ (by decide +kernel)
    | always => exact okM_str _ (by decide +kernel)
    | fr v => exact (okM_sg (from_ok h hx v)).mono (by decide)
  rw [h1.okE (by decide), (okM_str 1 hz).okE (by decide)]; rfl
def isA : Up → Bool
  | .always => true
  | _ => false
def isN2 : Up → Bool
  | .never => true
  | _ => false
theorem lf_a (x : Str) (u : Up) : PyData.eqv (eLf x u) (.str "always") = isA u := by
  cases u with
  | never => show PyData.eqv (.str "never") (.str "always") = false; decide +kernel
  | always => show PyData.eqv (.str "always") (.str "always") = true; decide +kernel
  | fr v => simp [eLf, PyData.eqv, isA]
theorem lf_n (x : Str) (u : Up) : PyData.eqv (eLf x u) (.str "never") = isN2 u := by
  cases u with
  | never => show PyData.eqv (.str "never") (.str "never") = true; decide +kernel
  | always => show PyData.eqv (.str "always") (.str "never") = false; decide +kernel
  | fr v => simp [eLf, PyData.eqv, isN2]
theorem w_lfA {us : Ux} {x : Str} {u : Up} (h : Xs us) (hx : x ∈ nms us) {Q : D → Prop} (q : Q (.bool (isA u))) : Wp (gEq (eLf x u) (.str "always")) Q :=
  w_lfEq h hx (by decide +kernel) (by rw [lf_a]; exact q)
theorem w_lfN {us : Ux} {x : Str} {u : Up} (h : Xs us) (hx : x ∈ nms us) {Q : D → Prop} (q : Q (.bool (!isN2 u))) : Wp (gNe (eLf x u) (.str "never")) Q :=
  w_lfNe h hx (by decide +kernel) (by rw [lf_n]; exact q)
theorem parts_lf (x : Str) (u : Up) (c : Int) : (upp x u c).map ePr = if isA u = true then [] else if isN2 u = true then [] else [.tuple [.tuple [eLf x u, .bool true], .int c]] := by cases u <;> rfl
theorem upn_lf (u : Up) (c : Int) : upn u c = if isA u = true then c else 0 := by cases u <;> rfl
local macro_rules | `(tactic| allgen_close_more) => `(tactic| first
  | (simp -dsimp only [q_parN])
  | (with_reducible refine W_forCons ?_)
  | (with_reducible refine W_forNil ?_)
  | (with_reducible refine w_domE ?h1 ?h2 ?_; (case h1 => assumption); (case h2 => assumption))
  | ((with_reducible refine law_from_w ?h1 ?h2 ?_); (case h1 => assumption); (case h2 => assumption); intro _ he; refine ⟨he, ?_⟩))
theorem law_works_w {us : Ux} {ws : List Wk} {room : Int} (h : Xs us) (hl : ws.length < 100) (hx : ∀ k ∈ ws, k.1 ∈ nms us) {Q : D → List D → Prop} (q : ∀ es, es.length = 2 → Q (.list ((rowsW us ws room).map eRw)) es) : PD.Wq (f__law_works_rows [eUs us, eWk ws room]) Q := by
  have hxs := wxs_mem hx
  have h64 := vals_few h hxs
  unfold f__law_works_rows m__law_works_rows eWk
  top_reprB
  generalize some (false, PyData.tuple [.str "works", .tuple (ws.map fun k => .str k.1), .tuple (ws.map fun k => .int k.2.1), .tuple (ws.map fun k => .int k.2.2), .int room]) = A1
  generalize some (false, PyData.str "works") = A2
  refine W_forM ws (fun k => PyData.str k.1) (fun pre ρ => ∃ (l : List (Int × Bool)) (a b : Option (Bool × D)), ρ = [some (false, eUs us), A1, A2, some (false, .tuple (ws.map fun k => .str k.1)), some (false, .tuple (ws.map fun k => .int k.2.1)), some (false, .tuple (ws.map fun k => .int k.2.2)), some (false, .int room), some (true, .dict (kvM .int .bool l)), a, b, none, none, none, none, none, none, none, none] ∧ Seen l (allV us (wxs pre))) ⟨[], _, _, rfl, Seen.nil⟩ (fun pre k post ρ hz ⟨l, a, b, e1, e2⟩ => ?_) fun ρ ⟨l, a, b, e1, e2⟩ => ?_
  · subst e1
    have hk : k.1 ∈ nms us := hx k (by rw [hz]; simp)
    top_reprB
    refine W_forM (domOf us k.1) .int (fun p2 ρ => ∃ (l : List (Int × Bool)) (b : Option (Bool × D)), ρ = [some (false, eUs us), A1, A2, some (false, .tuple (ws.map fun k => .str k.1)), some (false, .tuple (ws.map fun k => .int k.2.1)), some (false, .tuple (ws.map fun k => .int k.2.2)), some (false, .int room), some (true, .dict (kvM .int .bool l)), some (false, .str k.1), b, none, none, none, none, none, none, none, none] ∧ Seen l (allV us (wxs pre) ++ p2)) ⟨l, _, rfl, by simpa using e2⟩ (fun p2 z post2 ρ hz2 ⟨l, b, e1, e2⟩ => ?_) fun ρ ⟨l, b, e1, e2⟩ => ?_
    · subst e1
      have hlen : l.length < 16777216 := by
        have := e2.few fun v hv => by
          rcases List.mem_append.mp hv with hv | hv
          · exact allV_vs h (fun u hu => hxs u (by unfold wxs at *; rw [hz, List.map_append]; exact List.mem_append_left _ hu)) v hv
          · exact (domOf_ok h hk).2.vs v (by rw [hz2]; exact List.mem_append_left _ hv)
        omega
      top_reprB
      refine w_putIB hlen ?_
      top_reprB
      exact ⟨_, _, rfl, by rw [← List.append_assoc]; exact e2.put z true⟩
    · subst e1
      top_reprB
      exact ⟨l, _, _, rfl, by unfold allV wxs at *; rw [List.map_append, List.flatMap_append]; simpa using e2⟩
  · subst e1
    have hf := e2.few (allV_vs h hxs)
    top_reprB
    refine w_s4of2 (w_sortedMI hf ?_)
    rw [e2.sort]
    top_reprB
    generalize some (true, PyData.dict (kvM .int .bool l)) = A7
    refine W_forM (vals us (wxs ws)) .int (fun pre ρ => ∃ (b c d e f g i j : Option (Bool × D)), ρ = [some (false, eUs us), A1, A2, some (false, .tuple (ws.map fun k => .str k.1)), some (false, .tuple (ws.map fun k => .int k.2.1)), some (false, .tuple (ws.map fun k => .int k.2.2)), some (false, .int room), A7, a, b, some (true, .list ((pre.map (rowW us ws room)).map eRw)), c, d, e, f, g, i, j]) ⟨_, _, _, _, _, _, _, _, rfl⟩ (fun pre t post ρ hz ⟨b, c, d, e, f, g, i, j, e1⟩ => ?_) fun ρ ⟨b, c, d, e, f, g, i, j, e1⟩ => ?_
    · subst e1
      have hlen := congrArg List.length hz
      rw [List.length_append, List.length_cons] at hlen
      top_reprB
      rw [List.length_map, Int.toNat_natCast]
      refine W_forR (fun n ρ => ∃ (e f g i j : Option (Bool × D)), ρ = [some (false, eUs us), A1, A2, some (false, .tuple (ws.map fun k => .str k.1)), some (false, .tuple (ws.map fun k => .int k.2.1)), some (false, .tuple (ws.map fun k => .int k.2.2)), some (false, .int room), A7, a, some (false, .int t), some (true, .list ((pre.map (rowW us ws room)).map eRw)), some (true, .list ((wprs us t (ws.take n)).map ePr)), some (false, .int (wlst us t (ws.take n) (-room))), e, f, g, i, j]) ⟨_, _, _, _, _, rfl⟩ (fun n ρ hn ⟨e, f, g, i, j, e1⟩ => ?_) fun ρ ⟨e, f, g, i, j, e1⟩ => ?_
      · subst e1
        have hk : ws[n]? = some ws[n] := List.getElem?_eq_getElem hn
        generalize ws[n] = k at hk
        have hkm : k.1 ∈ nms us := hx k (List.mem_of_getElem? hk)
        have hat : ∀ (e : Wk → D) {Q : D → Prop}, Q (e k) → Wp (atI (ws.map e) (0 + (n : Nat))) Q := fun e Q q => W_atM (by omega) (by omega) fun x hx => by
          rw [show ((0 : Int) + (n : Nat)).toNat = n by omega, hk] at hx
          cases hx
          exact q
        have h1 : (wprs us t (ws.take n)).length ≤ 400 := by
          have := wprs_len us t (ws.take n)
          rw [List.length_take] at this
          omega
        repeat' (first | tb_rel | (with_reducible refine hat _ ?_) | (with_reducible refine w_lfA h hkm ?_) | (with_reducible refine w_lfN h hkm ?_) | tb_start | intro _ | (with_reducible refine And.intro ?_ ?_))
        all_goals
          have e1 : (wprs us t (ws.take (n + 1))).map ePr = (wprs us t (ws.take n)).map ePr ++ (upp k.1 (upOf (domOf us k.1) (t - k.2.1 + 1)) (-k.2.2)).map ePr ++ (upp k.1 (upOf (domOf us k.1) (t + 1)) k.2.2).map ePr := by
            rw [List.take_succ, hk, Option.toList_some, wprs_snoc]
            unfold wps up1 up2
            simp only [List.map_append, List.append_assoc]
          have e2 : wlst us t (ws.take (n + 1)) (-room) = wlst us t (ws.take n) (-room) - upn (upOf (domOf us k.1) (t - k.2.1 + 1)) (-k.2.2) - upn (upOf (domOf us k.1) (t + 1)) k.2.2 := by
            rw [List.take_succ, hk, Option.toList_some, wlst_snoc]
            rfl
          rw [parts_lf, parts_lf] at e1
          rw [upn_lf, upn_lf] at e2
          refine ⟨some (false, .int (0 + (n : Nat))), some (false, eLf k.1 (upOf (domOf us k.1) (t - k.2.1 + 1))), some (false, eLf k.1 (upOf (domOf us k.1) (t + 1))), some (false, eLf k.1 (upOf (domOf us k.1) (t + 1))), some (false, .int k.2.2), ?_⟩
          rw [e1, e2]
          clear e1 e2 hat hx hxs hk hz
          simp_all
      · subst e1
        have h1 := wprs_len us t ws
        rw [List.take_length]
        top_reprB
        refine law_norm_w (by omega) (wprs_ok h hx t) fun es he => ?_
        top_reprB
        · exact he
        exact ⟨_, _, _, _, _, _, _, _, by rw [List.map_append, List.map_append]; rfl⟩
    · subst e1
      top_reprB
      exact q _ rfl
end
section
open PySem.W
structure RwOk (r : Rw) : Prop where
  few : r.1.length < 1000000
  ok : ∀ p ∈ r.1, SgOk p.1
  ord : (sortBy ePr r.1).map ePr = r.1.map ePr
  pos : 0 ≤ r.2
theorem sortBy_ord (l : List Pr) : (sortBy ePr (sortBy ePr l)).map ePr = (sortBy ePr l).map ePr := by
  rw [← sortD_map, ← sortD_map]
  have T := PySem.W.sortLe_total (listOrd itemOrd) false fun b : D => PySem.W.keyToks b
  exact sorted_id (List.pairwise_mergeSort T.trans (fun a b => by rw [Bool.or_eq_true]; exact T.total a b) _)
theorem rowN_ok {ps : List Pr} {n : Int} (hl : ps.length < 1000000) (hok : ∀ p ∈ ps, SgOk p.1) : RwOk (rowN ps n) := by
  have hp := sortBy_perm ePr (((wgt ps).map (·.1)).flatMap (pt (wgt ps)))
  refine ⟨?_, fun p h => ?_, sortBy_ord _, ?_⟩
  · show (sortBy ePr (((wgt ps).map (·.1)).flatMap (pt (wgt ps)))).length < 1000000
    rw [hp.length_eq]
    have h1 := flat_len (wgt ps) ((wgt ps).map (·.1))
    have h2 := wgt_len ps
    rw [List.length_map] at h1
    omega
  · exact pts_ok hok p (hp.mem_iff.mp h)
  · show 0 ≤ max _ 0
    omega
def frt (s : Sg) (r : Rw) : Rw := if r.2 = 0 then r else (sortBy ePr (r.1 ++ [(s, false, r.2)]), r.2)
theorem frt_ok {s : Sg} {r : Rw} (hs : SgOk s) (h : RwOk r) (hf : r.1.length < 999999) : RwOk (frt s r) := by
  unfold frt
  split
  · exact h
  · have hp := sortBy_perm ePr (r.1 ++ [(s, false, r.2)])
    refine ⟨?_, fun p hp' => ?_, sortBy_ord _, h.pos⟩
    · show (sortBy ePr (r.1 ++ [(s, false, r.2)])).length < 1000000
      rw [hp.length_eq, List.length_append, List.length_singleton]
      omega
    · rcases List.mem_append.mp (hp.mem_iff.mp hp') with h1 | h1
      · exact h.ok p h1
      · rw [List.mem_singleton.mp h1]; exact hs
theorem part_ok {s : Sg} {r : Rw} (hs : SgOk s) (h : RwOk r) : ∀ p ∈ r.1 ++ [(s, false, r.2)], SgOk p.1 := fun p hp => by
  rcases List.mem_append.mp hp with h1 | h1
  · exact h.ok p h1
  · rw [List.mem_singleton.mp h1]; exact hs
theorem with_part_w {s : Sg} {r : Rw} (hs : SgOk s) (h : RwOk r) {Q : D → List D → Prop} (q : ∀ es, es.length = 2 → Q (eRw (frt s r)) es) : PD.Wq (f_with_part [eRw r, eSd s false]) Q := by
  have hf := h.few
  unfold f_with_part m_with_part eRw at *
  top_reprB
  · rename_i h0
    unfold frt at q
    rw [if_pos h0] at q
    exact q _ rfl
  · rename_i h0
    unfold frt at q
    rw [if_neg h0] at q
    have e : r.1.map ePr ++ [PyData.tuple [eSd s false, .int r.2]] = (r.1 ++ [(s, false, r.2)]).map ePr := by rw [List.map_append]; rfl
    rw [e]
    refine w_s5t (okSC_pr (part_ok hs h)) ?_
    top_reprB
    exact q _ rfl
theorem further_w {s : Sg} {rs : List Rw} (hs : SgOk s) (hl : rs.length < 1000000) (h : ∀ r ∈ rs, RwOk r) {Q : D → List D → Prop} (q : ∀ es, es.length = 2 → Q (.list ((rs.map (frt s)).map eRw)) es) : PD.Wq (f__law_further [.list (rs.map eRw), eSg s]) Q := by
  unfold f__law_further m__law_further
  top_reprB
  generalize some (false, PyData.list (rs.map eRw)) = A0
  refine W_forM rs eRw (fun pre ρ => ∃ (a b c : Option (Bool × D)), ρ = [A0, some (false, eSg s), some (true, .list ((pre.map (frt s)).map eRw)), a, b, c]) ⟨_, _, _, rfl⟩ (fun pre r post ρ hx ⟨a, b, c, e1⟩ => ?_) fun ρ ⟨a, b, c, e1⟩ => ?_
  · subst e1
    have hr := h r (by rw [hx]; simp)
    have hf := hr.few
    have hp := hr.pos
    have hlen := congrArg List.length hx
    rw [List.length_append, List.length_cons] at hlen
    have e3 : ((pre ++ [r]).map (frt s)).map eRw = (pre.map (frt s)).map eRw ++ [eRw (frt s r)] := by rw [List.map_append, List.map_append]; rfl
    rw [show eRw r = .tuple [.tuple (r.1.map ePr), .int r.2] from rfl]
    top_reprB
    · rename_i h0
      have e : r.1.map ePr ++ [PyData.tuple [PyData.tuple [eSg s, .bool false], .int r.2]] = (r.1 ++ [(s, false, r.2)]).map ePr := by rw [List.map_append]; rfl
      rw [e]
      refine w_s5t (okSC_pr (part_ok hs hr)) ?_
      top_reprB
      have e2 : frt s r = (sortBy ePr (r.1 ++ [(s, false, r.2)]), r.2) := by unfold frt; rw [if_neg (by omega)]
      exact ⟨_, _, _, by rw [e3, e2]; rfl⟩
    · rename_i h0
      rw [List.append_nil]
      refine w_s5t (okSC_pr hr.ok) ?_
      top_reprB
      have e2 : frt s r = r := by unfold frt; rw [if_pos (by omega)]
      exact ⟨_, _, _, by rw [e3, e2, hr.ord]; rfl⟩
  · subst e1
    top_reprB
    exact q _ rfl
end
section
open PySem.W
def Pl : Nat → D → Prop
  | 0, _ => False
  | _ + 1, .bool _ => True
  | _ + 1, .int _ => True
  | _ + 1, .str z => PyData.strOk z = true
  | n + 1, .tuple ds => ds.length < 16777216 ∧ ∀ d ∈ ds, Pl n d
  | _ + 1, _ => False
theorem Pl_map {α : Type} {n : Nat} {xs : List α} {e : α → D} (h : xs.length < 16777216) (h2 : ∀ x ∈ xs, Pl n (e x)) : Pl (n + 1) (.tuple (xs.map e)) := ⟨by rw [List.length_map]; exact h, fun d hd => by
  obtain ⟨x, hx, rfl⟩ := List.mem_map.mp hd
  exact h2 x hx⟩
theorem Pl.mono : ∀ {n m : Nat} {d : D}, Pl n d → n ≤ m → Pl m d
  | n + 1, m + 1, .bool _, _, _ => trivial
  | n + 1, m + 1, .int _, _, _ => trivial
  | n + 1, m + 1, .str _, h, _ => h
  | n + 1, m + 1, .tuple ds, h, hm => ⟨h.1, fun d hd => (h.2 d hd).mono (by omega)⟩
  | n + 1, _, .none, h, _ => h.elim
  | n + 1, _, .list _, h, _ => h.elim
  | n + 1, _, .dict _, h, _ => h.elim
  | 0, _, _, h, _ => h.elim
  | n + 1, 0, _, _, hm => absurd hm (by omega)
theorem Pl.okM : ∀ {n : Nat} {d : D}, Pl n d → okM n d
  | n + 1, .bool b, _ => okM_bool _ b
  | n + 1, .int i, _ => okM_int _ i
  | n + 1, .str z, h => okM_str _ h
  | n + 1, .tuple ds, h => okM_tup fun d hd => (h.2 d hd).okM
  | n + 1, .none, h => h.elim
  | n + 1, .list _, h => h.elim
  | n + 1, .dict _, h => h.elim
  | 0, _, h => h.elim
theorem Pl.eqv : ∀ {n : Nat} {d : D}, Pl n d → PyData.eqv d d = true
  | n + 1, .bool b, _ => by simp [PyData.eqv]
  | n + 1, .int i, _ => by simp [PyData.eqv]
  | n + 1, .str z, h => by simp [PyData.eqv]
  | n + 1, .tuple ds, h => by
    have : ∀ l : List D, (∀ d ∈ l, PyData.eqv d d = true) → PyData.eqvAll l l = true := fun l => by
      induction l with
      | nil => intro _; simp [PyData.eqvAll]
      | cons d r ih =>
        intro hl
        simp only [PyData.eqvAll, Bool.and_eq_true]
        exact ⟨hl d List.mem_cons_self, ih fun e he => hl e (List.mem_cons_of_mem _ he)⟩
    simpa [PyData.eqv] using this ds fun d hd => (h.2 d hd).eqv
  | n + 1, .none, h => h.elim
  | n + 1, .list _, h => h.elim
  | n + 1, .dict _, h => h.elim
  | 0, _, h => h.elim
theorem w_neSelf {n : Nat} {d : D} (h : Pl n d) (hn : n ≤ 60) {Q : D → Prop} (q : Q (.bool false)) : Wp (gNe d d) Q := by
  refine ⟨_, if_pos ?_, ?_⟩
  · rw [h.okM.okE (by omega)]; rfl
  · rw [h.eqv]; exact q
theorem so_w : ∀ (n : Nat) (d : D), Pl n d → ∀ {Q : D → List D → Prop}, Q (.bool true) [d, d] → PD.Wq (f__law_so n [d, d]) Q
  | 0, d, h, Q, q => h.elim
  | n + 1, .bool b, h, Q, q => by
    rw [f__law_so]
    unfold m__law_so
    top_reprB
    refine w_eqB ?_
    top_reprB
    simpa using q
  | n + 1, .int i, h, Q, q => by
    rw [f__law_so]
    unfold m__law_so
    top_reprB
    simpa using q
  | n + 1, .str z, h, Q, q => by
    have e : gEq (.str z) (.str z) = some (.bool true) := by rw [gEq_ss h h, decide_eq_true rfl]
    rw [f__law_so]
    unfold m__law_so
    top_reprB
    exact q
  | n + 1, .tuple ds, h, Q, q => by
    have hl := h.1
    rw [f__law_so]
    unfold m__law_so
    top_reprB
    refine W_forR (fun k ρ => ∃ a, ρ = [some (false, .tuple ds), some (false, .tuple ds), a]) ⟨_, rfl⟩ (fun k ρ hk ⟨a, e⟩ => ?_) fun ρ ⟨a, e⟩ => ?_
    · subst e
      have hk : k < ds.length := by simpa using hk
      tb_rel
      refine W_atI (by omega) (by omega) fun d hd => ?_
      tb_rel
      refine W_atI (by omega) (by omega) fun d2 hd2 => ?_
      have e : d = d2 := Option.some.inj (hd.symm.trans hd2)
      subst e
      tb_rel
      refine so_w n d (h.2 d (List.mem_of_getElem? hd)) ?_
      top_reprB
      exact ⟨_, rfl⟩
    · subst e
      top_reprB
      exact q
  | n + 1, .none, h, Q, q => h.elim
  | n + 1, .list _, h, Q, q => h.elim
  | n + 1, .dict _, h, Q, q => h.elim
theorem pl_sg {s : Sg} (h : SgOk s) : Pl 2 (eSg s) := ⟨by have := h.few; simp; omega, fun d hd => by
  rcases List.mem_cons.mp hd with rfl | hd
  · exact h.sort
  · rcases List.mem_cons.mp hd with rfl | hd
    · exact h.name
    · obtain ⟨i, _, rfl⟩ := List.mem_map.mp hd
      exact trivial⟩
theorem pl_pr {p : Pr} (h : SgOk p.1) : Pl 4 (ePr p) := ⟨by simp, fun d hd => by
  simp only [List.mem_cons, List.not_mem_nil, or_false] at hd
  rcases hd with rfl | rfl
  · exact ⟨by simp, fun d hd => by
      simp only [List.mem_cons, List.not_mem_nil, or_false] at hd
      rcases hd with rfl | rfl
      · exact pl_sg h
      · exact trivial⟩
  · exact trivial⟩
theorem pl_rw {r : Rw} (h : RwOk r) : Pl 6 (eRw r) := ⟨by simp, fun d hd => by
  simp only [List.mem_cons, List.not_mem_nil, or_false] at hd
  rcases hd with rfl | rfl
  · exact Pl_map (by have := h.few; omega) fun p hp => pl_pr (h.ok p hp)
  · exact trivial⟩
end
section
open PySem.W
inductive Sy where
  | lea (ts : List (Str × Int)) (n : Int)
  | sam (ts : List (Str × Int)) (n : Int)
  | unl (xs : List Str)
  | cnt (xs : List Str) (tr : List (Int × Int × Int))
  | wks (ws : List Wk) (room : Int)
def eSy : Sy → D
  | .lea ts n => .tuple [.str "least", .tuple (ts.map eTm), .int n]
  | .sam ts n => .tuple [.str "same", .tuple (ts.map eTm), .int n]
  | .unl xs => .tuple [.str "unlike", eXs xs]
  | .cnt xs tr => .tuple [.str "counts", eXs xs, .tuple (tr.map eTr)]
  | .wks ws room => eWk ws room
structure NmOk (us : Ux) (xs : List Str) : Prop where
  few : xs.length < 100
  nm : ∀ x ∈ xs, x ∈ nms us
def SyOk (us : Ux) : Sy → Prop
  | .lea ts _ => TsOk us ts ∧ ts.length < 100
  | .sam ts _ => TsOk us ts ∧ ts.length < 100
  | .unl xs => NmOk us xs
  | .cnt xs tr => NmOk us xs ∧ tr.length < 1000
  | .wks ws _ => ws.length < 100 ∧ ∀ k ∈ ws, k.1 ∈ nms us
def negT (ts : List (Str × Int)) : List (Str × Int) := ts.map fun t => (t.1, -t.2)
theorem negT_ok {us : Ux} {ts : List (Str × Int)} (h : TsOk us ts) : TsOk us (negT ts) := ⟨by unfold negT; rw [List.length_map]; exact h.few, fun t ht => by
  obtain ⟨u, hu, rfl⟩ := List.mem_map.mp ht
  exact h.nm u hu, fun t ht => by
  obtain ⟨u, hu, rfl⟩ := List.mem_map.mp ht
  have := h.w u hu
  exact ⟨by show -1000 ≤ -u.2; omega, by show -u.2 ≤ 1000; omega⟩⟩
def rowsOf (us : Ux) : Sy → List Rw
  | .lea ts n => [rowS us ts n]
  | .sam ts n => [rowS us ts n, rowS us (negT ts) (-n)]
  | .unl xs => rowsU us xs
  | .cnt xs tr => rowsC us xs tr
  | .wks ws room => rowsW us ws room
theorem rowN_len (ps : List Pr) (n : Int) : (rowN ps n).1.length ≤ ps.length := by
  show (sortBy ePr (((wgt ps).map (·.1)).flatMap (pt (wgt ps)))).length ≤ _
  rw [(sortBy_perm ePr _).length_eq]
  have h1 := flat_len (wgt ps) ((wgt ps).map (·.1))
  have h2 := wgt_len ps
  rw [List.length_map] at h1
  omega
def RF (r : Rw) : Prop := RwOk r ∧ r.1.length < 999999
theorem rowN_rf {ps : List Pr} {n : Int} (hl : ps.length < 999999) (hok : ∀ p ∈ ps, SgOk p.1) : RF (rowN ps n) := ⟨rowN_ok (by omega) hok, Nat.lt_of_le_of_lt (rowN_len ps n) hl⟩
theorem rowS_rf {us : Ux} {ts : List (Str × Int)} {n : Int} (h : Xs us) (ht : TsOk us ts) : RF (rowS us ts n) := rowN_rf (by have := sprs_len h ht.nm; have := ht.few; omega) (sprs_ok h ht.nm)
theorem rows_rf {us : Ux} {sy : Sy} (h : Xs us) (hs : SyOk us sy) : (rowsOf us sy).length < 100000 ∧ ∀ r ∈ rowsOf us sy, RF r := by
  cases sy with
  | lea ts n => exact ⟨by show 1 < 100000; decide, fun r hr => by rw [List.mem_singleton.mp hr]; exact rowS_rf h hs.1⟩
  | sam ts n =>
    refine ⟨by show 2 < 100000; decide, fun r hr => ?_⟩
    have hr : r = rowS us ts n ∨ r = rowS us (negT ts) (-n) := by simpa [rowsOf] using hr
    rcases hr with rfl | rfl
    · exact rowS_rf h hs.1
    · exact rowS_rf h (negT_ok hs.1)
  | unl xs =>
    have h64 := vals_few h hs.nm
    refine ⟨?_, fun r hr => ?_⟩
    · show (rowsU us xs).length < 100000
      unfold rowsU lots
      rw [List.length_map]
      have : ((vals us xs).filter fun v => decide (1 < ((hvg us xs v).length : Int))).length ≤ (vals us xs).length := List.length_filter_le ..
      omega
    · obtain ⟨v, _, rfl⟩ := List.mem_map.mp hr
      have := hvg_len us xs v
      have := hs.few
      exact rowN_rf (by rw [List.length_map]; omega) (prs_ok (hvg_ok h hs.nm v) _)
  | cnt xs tr =>
    refine ⟨?_, fun r hr => ?_⟩
    · show (rowsC us xs tr).length < 100000
      rw [rowsC_len]
      have := hs.2
      omega
    · obtain ⟨t, _, hr⟩ := List.mem_flatMap.mp hr
      have := hvg_len us xs t.1
      have := hs.1.few
      have hr : r = rowL (hvg us xs t.1) t.2.1 ∨ r = rowM (hvg us xs t.1) t.2.2 := by simpa [rowsC1] using hr
      rcases hr with rfl | rfl
      · exact rowN_rf (by rw [List.length_map]; omega) (prs_ok (hvg_ok h hs.1.nm _) _)
      · exact rowN_rf (by rw [List.length_map]; omega) (prs_ok (hvg_ok h hs.1.nm _) _)
  | wks ws room =>
    have h64 := vals_few h (wxs_mem hs.2)
    refine ⟨?_, fun r hr => ?_⟩
    · show (rowsW us ws room).length < 100000
      unfold rowsW
      rw [List.length_map]
      omega
    · obtain ⟨t, _, rfl⟩ := List.mem_map.mp hr
      have := wprs_len us t ws
      have := hs.1
      exact rowN_rf (by omega) (wprs_ok h hs.2 t)
local macro_rules | `(tactic| allgen_close_more) => `(tactic| first
  | (simp -dsimp only [eTm]))
theorem tell_least_w {us : Ux} {ts : List (Str × Int)} {n : Int} {s : D} (h : Xs us) (ht : TsOk us ts) {Q : D → List D → Prop} (q : ∀ es, es.length = 3 → Q (.list [eRw (rowS us ts n)]) es) : PD.Wq (f_tell_least [eUs us, s, .tuple [.str "least", .tuple (ts.map eTm), .int n]]) Q := by
  unfold f_tell_least m_tell_least
  generalize hd : PyData.tuple (ts.map eTm) = d
  have hlt : LT d (ts.map eTm) := .inr hd.symm
  top_reprB
  refine sum_row_w h ht hlt fun es he => ?_
  top_reprB
  · exact he
  · exact q _ rfl
theorem tell_same_w {us : Ux} {ts : List (Str × Int)} {n : Int} {s : D} (h : Xs us) (ht : TsOk us ts) {Q : D → List D → Prop} (q : ∀ es, es.length = 3 → Q (.list [eRw (rowS us ts n), eRw (rowS us (negT ts) (-n))]) es) : PD.Wq (f_tell_same [eUs us, s, .tuple [.str "same", .tuple (ts.map eTm), .int n]]) Q := by
  have hlen := ht.few
  unfold f_tell_same m_tell_same
  generalize hd : PyData.tuple (ts.map eTm) = d
  have hlt : LT d (ts.map eTm) := .inr hd.symm
  have hi : gItems2 d = some (ts.map eTm) := hlt.items
  top_reprB
  refine q_lcA ts eTm (fun ρ => ∃ a b c, ρ = [some (false, eUs us), some (false, s), some (false, .tuple [.str "same", d, .int n]), a, b, c]) (fun t => eTm (t.1, -t.2)) (by omega) ⟨_, _, _, rfl⟩ (fun t htm ρ ⟨a, b, c, e1⟩ => ?_) fun ρ ⟨a, b, c, e1⟩ => ?_
  · subst e1
    top_reprB
    · exact ⟨_, _, _, rfl⟩
  · subst e1
    rw [show ts.map (fun t => eTm (t.1, -t.2)) = (negT ts).map eTm by unfold negT; rw [List.map_map]; rfl]
    generalize hd2 : (negT ts).map eTm = d2
    top_reprB
    refine sum_row_w h ht hlt fun es he => ?_
    top_reprB
    · exact he
    refine sum_row_w h (negT_ok ht) (.inl (by rw [hd2])) fun es he => ?_
    top_reprB
    · exact he
    · exact q _ rfl
theorem telling_of_w {us : Ux} {sy : Sy} {s : D} (h : Xs us) (hs : SyOk us sy) {Q : D → List D → Prop} (q : ∀ es, es.length = 3 → Q (.list ((rowsOf us sy).map eRw)) es) : PD.Wq (f_telling_rows_of [eUs us, s, eSy sy]) Q := by
  unfold f_telling_rows_of m_telling_rows_of
  cases sy with
  | lea ts n =>
    unfold eSy
    top_reprB
    refine tell_least_w h hs.1 fun es he => ?_
    top_reprB
    · exact he
    · exact q _ rfl
  | sam ts n =>
    unfold eSy
    top_reprB
    refine tell_same_w h hs.1 fun es he => ?_
    top_reprB
    · exact he
    · exact q _ rfl
  | unl xs =>
    unfold eSy
    top_reprB
    refine tell_unlike_w h hs.few hs.nm fun es he => ?_
    top_reprB
    · exact he
    · exact q _ rfl
  | cnt xs tr =>
    unfold eSy
    top_reprB
    refine tell_counts_w h hs.1.few hs.2 hs.1.nm fun es he => ?_
    top_reprB
    · exact he
    · exact q _ rfl
  | wks ws room =>
    unfold eSy eWk
    top_reprB
    refine tell_works_w (room := room) h hs.1 hs.2 fun es he => ?_
    top_reprB
    · exact he
    · exact q _ rfl
end
section
open PySem.W
abbrev Fm := List (Str × D)
abbrev So := List (Str × D × Int)
def eF (p : Str × D) : D := .tuple [.str p.1, p.2]
def eSo (p : Str × D × Int) : D := .tuple [.str p.1, p.2.1, .int p.2.2]
def eMo (us : Ux) (firm : Fm) (soft : So) : D := .tuple [.tuple (us.map eDm), .tuple (firm.map eF), .tuple (soft.map eSo)]
def pSo (p : Str × D × Int) : Str × D := (p.1, p.2.1)
def saidL (firm : Fm) (soft : So) : List (Str × D) := putAllM (soft.map pSo) (putAllM firm [])
def pPr (p : Str × D × Int) : Str × Int := (p.1, p.2.2)
def pricesL (soft : So) : List (Str × Int) := putAllM (soft.map pPr) []
def idD (d : D) : D := d
local macro_rules | `(tactic| allgen_close_more) => `(tactic| first
  | (simp -dsimp only [eDm, eF, eSo]))
variable {us : Ux} {firm : Fm} {soft : So}
theorem domains_w (h : Xs us) {Q : D → List D → Prop} (q : ∀ es, es.length = 1 → Q (eUs us) es) : PD.Wq (f_domains_of [eMo us firm soft]) Q := by
  have hl := h.len
  have hn := h.nd
  unfold f_domains_of m_domains_of
  generalize hM : eMo us firm soft = M
  have e0 : M = .tuple [.tuple (us.map eDm), .tuple (firm.map eF), .tuple (soft.map eSo)] := hM.symm
  top_reprB
  rw [e0]
  top_reprB
  refine q_dcMS us eDm (fun ρ => ∃ a b c, ρ = [c, a, b]) id eI (by omega) ⟨_, _, _, rfl⟩ (fun d hd ρ ⟨a, b, c, e⟩ => ?_) fun ρ ⟨a, b, c, e⟩ => ?_
  · subst e
    top_reprB
    all_goals first | rfl | exact ⟨_, _, _, rfl⟩
  · subst e
    rw [List.map_id, putAllM_nd us [] (by rw [List.nil_append]; exact hn), List.nil_append]
    top_reprB
    exact q _ rfl
theorem w_putMD {l : List (Str × D)} {k : Str} {v : D} {Q : D → Prop} (h : l.length < 16777216) (q : Q (.dict (kvM .str idD (putM l k v)))) : Wp (gPut (.dict (kvM .str idD l)) (.str k) v) Q := w_putMS (ev := idD) h q
theorem said_w (hf : firm.length < 1000) (hs : soft.length < 1000) {Q : D → List D → Prop} (q : ∀ es, es.length = 1 → Q (.dict (kvM .str idD (saidL firm soft))) es) : PD.Wq (f_said_in [eMo us firm soft]) Q := by
  unfold f_said_in m_said_in eMo
  top_reprB
  refine q_dcMS firm eF (fun ρ => ∃ a b d e, ρ = [some (false, .tuple [.tuple (us.map eDm), .tuple (firm.map eF), .tuple (soft.map eSo)]), a, b, d, e]) id idD (by omega) ⟨_, _, _, _, rfl⟩ (fun d hd ρ ⟨a, b, x, e, e1⟩ => ?_) fun ρ ⟨a, b, d, e, e1⟩ => ?_
  · subst e1
    top_reprB
    all_goals first | rfl | exact ⟨_, _, _, _, rfl⟩
  · subst e1
    rw [List.map_id]
    top_reprB
    refine W_forM soft eSo (fun pre ρ => ∃ a b c, ρ = [some (false, .tuple [.tuple (us.map eDm), .tuple (firm.map eF), .tuple (soft.map eSo)]), some (true, .dict (kvM .str idD (putAllM (pre.map pSo) (putAllM firm [])))), a, b, c]) ⟨_, _, _, rfl⟩ (fun pre p post ρ hx ⟨a, b, c, e1⟩ => ?_) fun ρ ⟨a, b, c, e1⟩ => ?_
    · subst e1
      have hlen := congrArg List.length hx
      rw [List.length_append, List.length_cons] at hlen
      have h1 := putAllM_len (pre.map pSo) (putAllM firm [])
      have h2 := putAllM_len firm []
      rw [List.length_map] at h1
      rw [List.length_nil] at h2
      have e3 : putAllM ((pre ++ [p]).map pSo) (putAllM firm []) = putM (putAllM (pre.map pSo) (putAllM firm [])) p.1 p.2.1 := by
        rw [List.map_append, List.map_cons, List.map_nil, putAllM_snoc]; rfl
      top_reprB
      refine w_putMD (by omega) ?_
      top_reprB
      exact ⟨_, _, _, by rw [e3]⟩
    · subst e1
      top_reprB
      exact q _ rfl
theorem prices_w (hs : soft.length < 1000) {Q : D → List D → Prop} (q : ∀ es, es.length = 1 → Q (.dict (kvM .str .int (pricesL soft))) es) : PD.Wq (f_prices_of [eMo us firm soft]) Q := by
  unfold f_prices_of m_prices_of eMo
  top_reprB
  refine q_dcMS soft eSo (fun ρ => ∃ a b d, ρ = [some (false, .tuple [.tuple (us.map eDm), .tuple (firm.map eF), .tuple (soft.map eSo)]), a, b, d]) pPr .int (by omega) ⟨_, _, _, rfl⟩ (fun d hd ρ ⟨a, b, x, e1⟩ => ?_) fun ρ ⟨a, b, d, e1⟩ => ?_
  · subst e1
    top_reprB
    all_goals first | rfl | exact ⟨_, _, _, rfl⟩
  · subst e1
    top_reprB
    exact q _ rfl
structure MoOk (s : Str) (sy : Sy) (b : Bool) (firm : Fm) (soft : So) : Prop where
  f1 : firm.length < 1000
  f2 : soft.length < 1000
  at_ : getM (saidL firm soft) s = some (eSy sy)
  pr : decide (s ∈ soft.map (·.1)) = b
theorem prices_mem (soft : So) (s : Str) : s ∈ (pricesL soft).map (·.1) ↔ s ∈ soft.map (·.1) := by
  unfold pricesL
  rw [putAllM_key, List.map_map]
  simp [pPr, Function.comp_def]
def kept (s : Str) : Sg := ⟨"kept", s, []⟩
theorem kept_ok {s : Str} (h : PyData.strOk s = true) : SgOk (kept s) := ⟨show PyData.strOk "kept" = true by decide +kernel, h, show 0 < 1000 by decide⟩
def outOf (us : Ux) (s : Str) (sy : Sy) (b : Bool) : List Rw := if b = true then (rowsOf us sy).map (frt (kept s)) else rowsOf us sy
theorem w_inMS {β : Type} {ev : β → D} {l : List (Str × β)} {k : Str} {Q : D → Prop} (q : Q (.bool (decide (k ∈ l.map (·.1))))) : Wp (gIn (.str k) (.dict (kvM .str ev l))) Q := by
  have e : gIn (.str k) (.dict (kvM .str ev l)) = some (.bool (dget (kvM .str ev l) (.inr k)).isSome) := by
    show ((if isT (kvM .str ev l) = true then none else (keyD (.str k)).map fun k => (dget (kvM .str ev l) k).isSome) : Option Bool).map PyData.bool = _
    rw [isT_MS]; rfl
  refine ⟨_, e, ?_⟩
  rw [dget_MS, Option.isSome_map]
  have : (getM l k).isSome = decide (k ∈ l.map (·.1)) := by
    rw [Bool.eq_iff_iff, getM_isSome, decide_eq_true_eq]
  rw [this]; exact q
theorem telling_w {s : Str} {sy : Sy} {b : Bool} (h : Xs us) (hs : SyOk us sy) (hM : MoOk s sy b firm soft) (hk : PyData.strOk s = true) {Q : D → List D → Prop} (q : ∀ es, es.length = 2 → Q (.tuple ((outOf us s sy b).map eRw)) es) : PD.Wq (f_telling_rows [eMo us firm soft, .str s]) Q := by
  have hr := rows_rf h hs
  unfold f_telling_rows m_telling_rows
  top_reprB
  refine domains_w h fun es he => ?_
  top_reprB
  · exact he
  refine said_w hM.f1 hM.f2 fun es he => ?_
  top_reprB
  · exact he
  refine w_ixMS (ev := idD) hM.at_ ?_
  top_reprB
  refine telling_of_w h hs fun es he => ?_
  top_reprB
  · exact he
  refine prices_w hM.f2 fun es he => ?_
  top_reprB
  · exact he
  refine w_inMS ?_
  rw [show decide (s ∈ (pricesL soft).map (·.1)) = b by rw [← hM.pr]; exact decide_eq_decide.mpr (prices_mem soft s)]
  rw [putBack_none]
  have hko := kept_ok hk
  cases b with
  | true =>
    top_reprB
    refine q_lcA (rowsOf us sy) eRw (fun ρ => ∃ a, ρ = [some (false, eMo us firm soft), some (false, .str s), some (false, .list ((rowsOf us sy).map eRw)), a]) (fun r => eRw (frt (kept s) r)) (by omega) ⟨_, rfl⟩ (fun r hrm ρ ⟨a, e1⟩ => ?_) fun ρ ⟨a, e1⟩ => ?_
    · subst e1
      top_reprB
      refine with_part_w (s := kept s) hko (hr.2 r hrm).1 fun es he => ?_
      top_reprB
      · exact he
      · exact ⟨_, rfl⟩
    · subst e1
      rw [show (rowsOf us sy).map (fun r => eRw (frt (kept s) r)) = (outOf us s sy true).map eRw by unfold outOf; rw [if_pos rfl, List.map_map]; rfl]
      top_reprB
      exact q _ rfl
  | false =>
    top_reprB
    exact q _ rfl
theorem due_w {s : Str} {sy : Sy} {price : Int} (h : Xs us) (hs : SyOk us sy) (hk : PyData.strOk s = true) {Q : D → List D → Prop} (q : ∀ es, es.length = 4 → Q (.tuple ((outOf us s sy (decide (0 < price))).map eRw)) es) : PD.Wq (f__law_due [.tuple (us.map eDm), .str s, eSy sy, .int price]) Q := by
  have hr := rows_rf h hs
  have hko := kept_ok hk
  unfold f__law_due m__law_due
  top_reprB
  show Wp (gDictQ (.tuple (us.map fun p => .tuple [.str p.1, eI p.2]))) _
  refine w_dictST (ev := eI) h.nd ?_
  show Wp (gSet 4 (eUs us) _) _
  cases sy with
  | lea ts n =>
    unfold eSy
    have hlt : LT (.tuple (ts.map eTm)) (ts.map eTm) := .inr rfl
    top_reprB
    refine law_sum_row_w h hs.1 hlt fun es he => ?_
    top_reprB
    · exact he
    · rename_i hp
      rw [decide_eq_true hp] at q
      refine further_w (s := kept s) (rs := rowsOf us (.lea ts n)) hko (by omega) (fun r hrm => (hr.2 r hrm).1) fun es he => ?_
      top_reprB
      · exact he
      · exact q _ rfl
    · rename_i hp
      rw [decide_eq_false hp] at q
      exact q _ rfl
  | sam ts n =>
    unfold eSy
    have hlen := hs.1.few
    have hlt : LT (.tuple (ts.map eTm)) (ts.map eTm) := .inr rfl
    top_reprB
    refine law_sum_row_w h hs.1 hlt fun es he => ?_
    top_reprB
    · exact he
    refine q_lcA ts eTm (fun ρ => ∃ a b c, ρ = [c, some (false, .str s), some (false, .tuple [.str "same", .tuple (ts.map eTm), .int n]), some (false, .int price), some (false, eUs us), some (true, .list [eRw (rowS us ts n)]), a, b]) (fun t => eTm (t.1, -t.2)) (by omega) ⟨_, _, _, rfl⟩ (fun t htm ρ ⟨a, b, c, e1⟩ => ?_) fun ρ ⟨a, b, c, e1⟩ => ?_
    · subst e1
      unfold eTm
      top_reprB
      all_goals first | rfl | exact ⟨_, _, _, rfl⟩
    · subst e1
      rw [show ts.map (fun t => eTm (t.1, -t.2)) = (negT ts).map eTm by unfold negT; rw [List.map_map]; rfl]
      generalize hd2 : (negT ts).map eTm = d2
      top_reprB
      refine law_sum_row_w h (negT_ok hs.1) (.inl (by rw [hd2])) fun es he => ?_
      top_reprB
      · exact he
      · rename_i hp
        rw [decide_eq_true hp] at q
        refine further_w (s := kept s) (rs := rowsOf us (.sam ts n)) hko (by omega) (fun r hrm => (hr.2 r hrm).1) fun es he => ?_
        top_reprB
        · exact he
        · exact q _ rfl
      · rename_i hp
        rw [decide_eq_false hp] at q
        exact q _ rfl
  | unl xs =>
    unfold eSy eXs
    top_reprB
    refine law_unlike_w h hs.few hs.nm fun es he => ?_
    top_reprB
    · exact he
    · rename_i hp
      rw [decide_eq_true hp] at q
      refine further_w (s := kept s) (rs := rowsOf us (.unl xs)) hko (by omega) (fun r hrm => (hr.2 r hrm).1) fun es he => ?_
      top_reprB
      · exact he
      · exact q _ rfl
    · rename_i hp
      rw [decide_eq_false hp] at q
      exact q _ rfl
  | cnt xs tr =>
    unfold eSy eXs
    top_reprB
    refine law_counts_w h hs.1.few hs.2 hs.1.nm fun es he => ?_
    top_reprB
    · exact he
    · rename_i hp
      rw [decide_eq_true hp] at q
      refine further_w (s := kept s) (rs := rowsOf us (.cnt xs tr)) hko (by omega) (fun r hrm => (hr.2 r hrm).1) fun es he => ?_
      top_reprB
      · exact he
      · exact q _ rfl
    · rename_i hp
      rw [decide_eq_false hp] at q
      exact q _ rfl
  | wks ws room =>
    unfold eSy eWk
    top_reprB
    refine law_works_w (room := room) h hs.1 hs.2 fun es he => ?_
    top_reprB
    · exact he
    · rename_i hp
      rw [decide_eq_true hp] at q
      refine further_w (s := kept s) (rs := rowsOf us (.wks ws room)) hko (by omega) (fun r hrm => (hr.2 r hrm).1) fun es he => ?_
      top_reprB
      · exact he
      · exact q _ rfl
    · rename_i hp
      rw [decide_eq_false hp] at q
      exact q _ rfl
end
section
open PySem.W
local macro_rules | `(tactic| allgen_close_more) => `(tactic| first
  | (with_reducible refine draw_w ?h1 ?h2 ?h3 ?_; (case h1 => assumption); (case h2 => allgen_close2_more); (case h3 => allgen_close2_more); intro _ _ _ _ _))
theorem int_of {d : D} {ns : List Int} (h : d ∈ ns.map PyData.int) : ∃ i, d = .int i ∧ i ∈ ns := by
  obtain ⟨i, hi, rfl⟩ := List.mem_map.mp h
  exact ⟨i, rfl, hi⟩
def eLh (p : Int × Int) : D := .tuple [.int p.1, .int p.2]
theorem w_putIL {l : List (Int × (Int × Int))} {k a b : Int} {Q : D → Prop} (h : l.length < 16777216) (q : Q (.dict (kvM .int eLh (putM l k (a, b))))) : Wp (gPut (.dict (kvM .int eLh l)) (.int k) (.tuple [.int a, .int b])) Q := w_putMI (ev := eLh) (v := (a, b)) h q
theorem w_valE {s : D} {us : Ux} {x : Str} (hs : Sd s) (h : Xs us) (hx : x ∈ nms us) {Q : D → List D → Prop} (q : ∀ (v : Int) (s' : D), Sd s' → Q (.int v) [s', .tuple ((domOf us x).map .int)]) : PD.Wq (f__law_value [s, .tuple ((domOf us x).map .int)]) Q :=
  value_w hs (domOf_ok h hx).2 fun v s' h1 _ => q v s' h1
theorem W_ints {ns : List Int} {i : Int} {Q : D → Prop} (h0 : 0 ≤ i) (h1 : i < ns.length) (q : ∀ v, v ∈ ns → Q (.int v)) : Wp (atI (ns.map .int) i) Q :=
  W_atM h0 h1 fun x hx => q x (List.mem_of_getElem? hx)
theorem sums_w {s : D} {us : Ux} {g : Bool} (hs : Sd s) (h : Xs us) (h0 : 0 < us.length) {Q : D → List D → Prop} (q : ∀ (sy : Sy) (s' : D), Sd s' → SyOk us sy → Q (eSy sy) [s', eUs us, .list ((nms us).map .str), .bool g]) : PD.Wq (f__law_sums [s, eUs us, .list ((nms us).map .str), .bool g]) Q := by
  have hu := h.len
  have hn : (nms us).length = us.length := List.length_map ..
  have hm : ((nms us).map PyData.str).length = us.length := by rw [List.length_map]; exact hn
  unfold f__law_sums m__law_sums
  rw [q_runD]
  refine seq_cut (fun ρ => ∃ (s1 : D) (kind : Int), Sd s1 ∧ 0 ≤ kind ∧ kind < 5 ∧ ρ = [some (true, s1), some (false, eUs us), some (false, .list ((nms us).map .str)), some (false, .bool g), some (false, .int kind), none, none, none, none, none, none, none, none, none, none]) ?_ fun ρ ⟨s1, kind, g1, k0, k1, e1⟩ => ?_
  · top_reprB
    exact ⟨_, _, by assumption, by assumption, by assumption, rfl⟩
  subst e1
  refine seq_cut (fun ρ => ∃ (s1 : D) (xs : List Str), Sd s1 ∧ 0 < xs.length ∧ xs.length ≤ 12 ∧ (∀ x ∈ xs, x ∈ nms us) ∧ ρ = [some (true, s1), some (false, eUs us), some (false, .list ((nms us).map .str)), some (false, .bool g), some (false, .int kind), some (false, .tuple (xs.map .str)), none, none, none, none, none, none, none, none, none]) ?_ fun ρ ⟨s2, xs, g2, x0, x1, x2, e1⟩ => ?_
  · cases g <;> top_reprB
    all_goals
      refine taken_w (by assumption) (by first | omega | (split <;> omega)) (by first | omega | (split <;> omega)) (by omega) fun xs s3 g3 hx hl => ?_
      top_reprB
      refine ⟨s3, xs, g3, ?_, ?_, hx, rfl⟩
    all_goals first
      | omega
      | (split at hl <;> omega)
  subst e1
  have hxm : (xs.map PyData.str).length = xs.length := List.length_map ..
  refine seq_cutR (fun ρ => 2 ≤ kind ∧ ρ = [some (true, s2), some (false, eUs us), some (false, .list ((nms us).map .str)), some (false, .bool g), some (false, .int kind), some (false, .tuple (xs.map .str)), none, none, none, none, none, none, none, none, none]) ?_ fun ρ ⟨k2, e1⟩ => ?_
  · top_reprB
    · refine q_lcE xs .str (fun ρ => ∃ (s' : D) (a b c d e f g' i j : Option (Bool × D)), Sd s' ∧ ρ = [some (true, s'), some (false, eUs us), some (false, .list ((nms us).map .str)), some (false, .bool g), some (false, .int kind), some (false, .tuple (xs.map .str)), none, none, none, none, none, none, none, none, a]) eTm (fun x t => t.1 = x ∧ -1000 ≤ t.2 ∧ t.2 ≤ 1000) (by omega) ⟨_, none, none, none, none, none, none, none, none, none, g2, rfl⟩ (fun x hxm' ρ ⟨s', a, b, c, d, e, f, g', i, j, hs', e1⟩ => ?_) fun ts ρ hl ht ⟨s', a, b, c, d, e, f, g', i, j, hs', e1⟩ => ?_
      · subst e1
        top_reprB
        refine W_atI (by omega) (by simpa using by assumption) fun d hd => ?_
        have hd := List.mem_of_getElem? hd
        obtain ⟨w, rfl, hw⟩ := int_of (ns := [1, -1, 2, -3, 100, -100, 7, 1]) hd
        have hw2 : -1000 ≤ w ∧ w ≤ 1000 := by
          have : ∀ w ∈ ([1, -1, 2, -3, 100, -100, 7, 1] : List Int), -1000 ≤ w ∧ w ≤ 1000 := by decide
          exact this w hw
        top_reprB
        · exact ⟨(x, w), rfl, rfl, hw2⟩
        · exact ⟨_, none, b, c, d, e, f, g', i, j, by assumption, rfl⟩
      · subst e1
        have htl : ts.length ≤ 12 := by omega
        have htk : TsOk us ts ∧ ts.length < 100 := by
          have key : ∀ t ∈ ts, ∃ x ∈ xs, t.1 = x ∧ -1000 ≤ t.2 ∧ t.2 ≤ 1000 := fun t htm => by
            obtain ⟨n, hn'⟩ := List.getElem?_of_mem htm
            have hlt : n < xs.length := by
              have := (List.getElem?_eq_some_iff.mp hn').1
              omega
            exact ⟨xs[n], List.getElem_mem hlt, ht n _ t (List.getElem?_eq_getElem hlt) hn'⟩
          exact ⟨⟨by omega, fun t htm => by obtain ⟨x, hx, e, _⟩ := key t htm; rw [e]; exact x2 x hx, fun t htm => by obtain ⟨x, hx, _, r⟩ := key t htm; exact r⟩, by omega⟩
        top_reprB
        refine W_atI (by omega) (by simpa using by assumption) fun dn hdn => ?_
        have hdn := List.mem_of_getElem? hdn
        obtain ⟨n, rfl⟩ : ∃ n, dn = .int n := by
          simp only [List.mem_cons, List.not_mem_nil, or_false] at hdn
          rcases hdn with rfl | rfl | rfl | rfl <;> exact ⟨_, rfl⟩
        top_reprB
        refine W_atI (by omega) (by simpa using by omega) fun dk hdk => ?_
        obtain rfl | rfl : kind = 0 ∨ kind = 1 := by omega
        · cases hdk
          top_reprB
          exact q (.lea ts n) _ (by assumption) htk
        · cases hdk
          top_reprB
          exact q (.sam ts n) _ (by assumption) htk
    · omega
  subst e1
  refine seq_cutR (fun ρ => 3 ≤ kind ∧ ρ = [some (true, s2), some (false, eUs us), some (false, .list ((nms us).map .str)), some (false, .bool g), some (false, .int kind), some (false, .tuple (xs.map .str)), none, none, none, none, none, none, none, none, none]) ?_ fun ρ ⟨k3, e1⟩ => ?_
  · top_reprB
    · exact q (.unl xs) _ g2 ⟨by omega, x2⟩
    · omega
  subst e1
  refine seq_cutR (fun ρ => 4 ≤ kind ∧ ρ = [some (true, s2), some (false, eUs us), some (false, .list ((nms us).map .str)), some (false, .bool g), some (false, .int kind), some (false, .tuple (xs.map .str)), none, none, none, none, none, none, none, none, none]) ?_ fun ρ ⟨k4, e1⟩ => ?_
  · top_reprB
    · refine W_forR (fun k ρ => ∃ (s' : D) (l : List (Int × (Int × Int))) (a b c : Option (Bool × D)), Sd s' ∧ l.length ≤ k ∧ ρ = [some (true, s'), some (false, eUs us), some (false, .list ((nms us).map .str)), some (false, .bool g), some (false, .int kind), some (false, .tuple (xs.map .str)), none, none, some (true, .dict (kvM .int eLh l)), a, b, c, none, none, none]) ⟨_, [], none, none, none, by assumption, Nat.zero_le _, rfl⟩ (fun k ρ hk ⟨s', l, a, b, c, hs', hl, e1⟩ => ?_) fun ρ ⟨s', l, a, b, c, hs', hl, e1⟩ => ?_
      · have hk12 : k < 13 := by
          cases g <;> simp at hk <;> omega
        subst e1
        top_reprB
        rename_i x hx
        have hxm' := x2 x (List.mem_of_getElem? hx)
        refine w_domE h hxm' ?_
        top_reprB
        refine w_valE (by assumption) h hxm' fun v s4 g4 => ?_
        top_reprB
        refine W_ints (ns := [v, 200, -200]) (by split <;> omega) (by simp only [List.length_cons, List.length_nil]; split <;> omega) fun v2 _ => ?_
        top_reprB
        refine W_ints (ns := [0, 0, 1, 2, 12]) (by omega) (by simp only [List.length_cons, List.length_nil]; omega) fun low _ => ?_
        top_reprB
        refine W_ints (ns := [0, 1, 2, 12]) (by omega) (by simp only [List.length_cons, List.length_nil]; omega) fun add _ => ?_
        top_reprB
        refine w_putIL (by omega) ?_
        top_reprB
        have hpl := fun a b => putM_len l v2 (a, b)
        exact ⟨_, _, _, _, _, by assumption, by have := hpl low (if low + add < 12 then low + add else 12); omega, rfl⟩
      · have hk12 : l.length < 14 := by
          cases g <;> simp at hl <;> omega
        subst e1
        top_reprB
        refine w_s4of2 (w_sortedMI (by omega) ?_)
        top_reprB
        have hks : (PD.sortI (l.map (·.1))).length < 14 := by rw [(PD.sortI_perm _).length_eq, List.length_map]; exact hk12
        refine q_lcE (PD.sortI (l.map (·.1))) .int (fun ρ => ∃ a, ρ = [some (true, s'), some (false, eUs us), some (false, .list ((nms us).map .str)), some (false, .bool g), some (false, .int kind), some (false, .tuple (xs.map .str)), none, none, some (true, .dict (kvM .int eLh l)), a, none, c, none, none, none] ∨ ∃ b, ρ = [some (true, s'), some (false, eUs us), some (false, .list ((nms us).map .str)), some (false, .bool g), some (false, .int kind), some (false, .tuple (xs.map .str)), none, none, some (true, .dict (kvM .int eLh l)), a, b, c, none, none, none]) eTr (fun v t => True) (by omega) ⟨_, .inl rfl⟩ (fun v hv ρ ⟨a', e1⟩ => ?_) fun tr ρ hl2 _ ⟨a', e1⟩ => ?_
        · obtain ⟨p, hp⟩ := getM_some ((PD.sortI_perm _).mem_iff.mp hv)
          have hin : ∀ {Q : D → Prop}, Q (.tuple [.int p.1, .int p.2]) → Wp (gIx (.dict (kvM .int eLh l)) (.int v)) Q := fun q => w_ixMI (ev := eLh) hp q
          rcases e1 with e1 | ⟨b', e1⟩
          all_goals
            subst e1
            top_reprB
            refine hin ?_
            top_reprB
            · exact ⟨(v, p.1, p.2), rfl⟩
            · exact ⟨_, .inl rfl⟩
        · rcases e1 with e1 | ⟨b', e1⟩
          all_goals
            subst e1
            top_reprB
            exact q (.cnt xs tr) _ hs' ⟨⟨by omega, x2⟩, by omega⟩
    · omega
  subst e1
  top_reprB
  refine q_lcE xs .str (fun ρ => ∃ (s' : D) (a : Option (Bool × D)), Sd s' ∧ ρ = [some (true, s'), some (false, eUs us), some (false, .list ((nms us).map .str)), some (false, .bool g), some (false, .int kind), some (false, .tuple (xs.map .str)), none, none, none, none, none, none, none, none, a]) .int (fun x t => True) (by omega) ⟨_, none, g2, rfl⟩ (fun x hxm' ρ ⟨s', a, hs', e1⟩ => ?_) fun ls ρ hll _ ⟨s', a, hs', e1⟩ => ?_
  · subst e1
    top_reprB
    refine W_ints (ns := [1, 2, 3, 5, 50]) (by omega) (by simp only [List.length_cons, List.length_nil]; omega) fun v _ => ?_
    top_reprB
    · exact ⟨v, rfl⟩
    · exact ⟨_, none, by assumption, rfl⟩
  subst e1
  top_reprB
  refine q_lcE xs .str (fun ρ => ∃ (s' : D) (a : Option (Bool × D)), Sd s' ∧ ρ = [some (true, s'), some (false, eUs us), some (false, .list ((nms us).map .str)), some (false, .bool g), some (false, .int kind), some (false, .tuple (xs.map .str)), none, none, none, none, none, none, some (false, .tuple (ls.map .int)), none, a]) .int (fun x t => True) (by omega) ⟨_, none, hs', rfl⟩ (fun x hxm' ρ ⟨s', a, hs', e1⟩ => ?_) fun nd ρ hln _ ⟨s', a, hs', e1⟩ => ?_
  · subst e1
    top_reprB
    refine W_ints (ns := [0, 1, 2, 3, 100]) (by omega) (by simp only [List.length_cons, List.length_nil]; omega) fun v _ => ?_
    top_reprB
    · exact ⟨v, rfl⟩
    · exact ⟨_, none, by assumption, rfl⟩
  subst e1
  top_reprB
  refine W_atI (by omega) (by simpa using by assumption) fun dn hdn => ?_
  have hdn := List.mem_of_getElem? hdn
  obtain ⟨n, rfl⟩ : ∃ n, dn = .int n := by
    simp only [List.mem_cons, List.not_mem_nil, or_false] at hdn
    rcases hdn with rfl | rfl | rfl | rfl <;> exact ⟨_, rfl⟩
  top_reprB
  have hz : (ls.zip nd).length = xs.length := by rw [List.length_zip, hll, hln, Nat.min_self]
  have f1 : (xs.zip (ls.zip nd)).map (fun k => PyData.str k.1) = xs.map .str := by
    rw [show (fun k : Wk => PyData.str k.1) = PyData.str ∘ Prod.fst from rfl, ← List.map_map, List.map_fst_zip (by omega)]
  have f2 : (xs.zip (ls.zip nd)).map (fun k => PyData.int k.2.1) = ls.map .int := by
    rw [show (fun k : Wk => PyData.int k.2.1) = (PyData.int ∘ Prod.fst) ∘ Prod.snd from rfl, ← List.map_map, List.map_snd_zip (by omega), ← List.map_map, List.map_fst_zip (by omega)]
  have f3 : (xs.zip (ls.zip nd)).map (fun k => PyData.int k.2.2) = nd.map .int := by
    rw [show (fun k : Wk => PyData.int k.2.2) = (PyData.int ∘ Prod.snd) ∘ Prod.snd from rfl, ← List.map_map, List.map_snd_zip (by omega), ← List.map_map, List.map_snd_zip (by omega)]
  have hq := q (.wks (xs.zip (ls.zip nd)) n) _ (by assumption) ⟨by rw [List.length_zip]; omega, fun k hk => x2 k.1 (List.of_mem_zip hk).1⟩
  have e4 : eSy (.wks (xs.zip (ls.zip nd)) n) = .tuple [.str "works", .tuple (xs.map .str), .tuple (ls.map .int), .tuple (nd.map .int), .int n] := by
    show eWk _ _ = _
    unfold eWk
    rw [f1, f2, f3]
  rw [e4] at hq
  exact hq
end
section
open PySem.W
local macro_rules | `(tactic| allgen_close_more) => `(tactic| first
  | (simp -dsimp only [eDm])
  | (with_reducible refine draw_w ?h1 ?h2 ?h3 ?_; (case h1 => assumption); (case h2 => allgen_close2_more); (case h3 => allgen_close2_more); intro _ _ _ _ _))
theorem getM_last {β : Type} : ∀ (B A : List (Str × β)) (s : Str) (v : β) (l : List (Str × β)), s ∉ B.map (·.1) → getM (putAllM (A ++ (s, v) :: B) l) s = some v := by
  intro B A s v l h
  have e : putAllM (A ++ (s, v) :: B) l = putAllM B (putM (putAllM A l) s v) := by
    unfold putAllM
    rw [List.foldl_append]; rfl
  rw [e]
  have key : ∀ (B : List (Str × β)) (l : List (Str × β)), s ∉ B.map (·.1) → getM (putAllM B l) s = getM l s := by
    intro B
    induction B with
    | nil => intro l _; rfl
    | cons p r ih =>
      intro l h
      rw [List.map_cons, List.mem_cons, not_or] at h
      show getM (putAllM r (putM l p.1 p.2)) s = _
      rw [ih _ h.2, getM_put, if_neg h.1]
  rw [key B _ h, getM_put, if_pos rfl]
def Ot (p : Str × D) : Prop := p.1 = "no.0" ∨ p.1 = "no.1"
theorem ot_not {A : Fm} {s : Str} (h : ∀ p ∈ A, Ot p) (h1 : s ≠ "no.0") (h2 : s ≠ "no.1") : s ∉ A.map (·.1) := fun hm => by
  obtain ⟨p, hp, e⟩ := List.mem_map.mp hm
  rcases h p hp with q | q
  · exact h1 (e.symm.trans q)
  · exact h2 (e.symm.trans q)
theorem model_w {sd : D} {us : Ux} {s : Str} {sy : D} {price n : Int} (hs : Sd sd) (h : Xs us) (h0 : 0 < us.length) (hn0 : 0 ≤ n) (hn : n ≤ 2) (hs1 : s ≠ "so.0") (hs2 : s ≠ "no.0") (hs3 : s ≠ "no.1") {Q : D → List D → Prop}
    (q : ∀ (firm : Fm) (soft : So) (s' : D), Sd s' → firm.length < 1000 → soft.length < 1000 → getM (saidL firm soft) s = some sy → decide (s ∈ soft.map (·.1)) = !decide (price = 0) → Q (eMo us firm soft) [s', .tuple (us.map eDm), .str s, sy, .int price, .int n]) : PD.Wq (f__law_model [sd, .tuple (us.map eDm), .str s, sy, .int price, .int n]) Q := by
  have hu := h.len
  have hm : (us.map eDm).length = us.length := List.length_map ..
  unfold f__law_model m__law_model
  rw [q_runD]
  refine seq_cut (fun ρ => ρ = [some (true, sd), some (false, .tuple (us.map eDm)), some (false, .str s), some (false, sy), some (false, .int price), some (false, .int n), some (true, .list (([] : Fm).map eF)), none, none, none, none]) ?_ fun ρ e1 => ?_
  · top_reprB
  subst e1
  refine seq_cut (fun ρ => ∃ (s1 : D) (A : Fm) (a b c : Option (Bool × D)), Sd s1 ∧ A.length < 100 ∧ (∀ p ∈ A, Ot p) ∧ ρ = [some (true, s1), some (false, .tuple (us.map eDm)), some (false, .str s), some (false, sy), some (false, .int price), some (false, .int n), some (true, .list (A.map eF)), a, b, c, none]) ?_ fun ρ ⟨s1, A, a, b, c, g1, hA, hO, e1⟩ => ?_
  · top_reprB
    refine W_forR (fun k ρ => ∃ (s1 : D) (A : Fm) (a b c : Option (Bool × D)), Sd s1 ∧ A.length = k ∧ (∀ p ∈ A, Ot p) ∧ ρ = [some (true, s1), some (false, .tuple (us.map eDm)), some (false, .str s), some (false, sy), some (false, .int price), some (false, .int n), some (true, .list (A.map eF)), a, b, c, none]) ⟨sd, [], none, none, none, hs, rfl, by simp, rfl⟩ (fun k ρ hk ⟨s1, A, a, b, c, g1, hA, hO, e1⟩ => ?_) fun ρ ⟨s1, A, a, b, c, g1, hA, hO, e1⟩ => ?_
    · have hk2 : k = 0 ∨ k = 1 := by omega
      subst e1
      rcases hk2 with rfl | rfl
      all_goals
        top_reprB
        refine W_atI (by decide) (by simp) fun d hd => ?_
        top_reprB
      all_goals
        rename_i x hx d hd
        refine w_str (by decide) (by decide) ?_
        top_reprB
        refine w_addS (by decide +kernel) ?_
        top_reprB
        refine ⟨_, A ++ [(_, d)], _, _, _, by assumption, by rw [List.length_append, hA]; rfl, fun p hp => ?_, by rw [List.map_append]; rfl⟩
        rcases List.mem_append.mp hp with hp | hp
        · exact hO p hp
        · rw [List.mem_singleton.mp hp]
          first
            | exact .inl (show (("no." : Str) ++ Str.ofString (toString ((0 : Int) + ((0 : Nat) : Int)))) = "no.0" by decide +kernel)
            | exact .inr (show (("no." : Str) ++ Str.ofString (toString ((0 : Int) + ((1 : Nat) : Int)))) = "no.1" by decide +kernel)
    · exact ⟨s1, A, a, b, c, g1, by omega, hO, e1⟩
  subst e1
  top_reprB
  · rename_i r s2 g2 r0 r1 hp
    rw [cut_none eF A r r0]
    refine w_addL (by rw [List.length_map, List.length_take]; simp; omega) ?_
    top_reprB
    rw [cut_from eF A r r0]
    refine w_addL (by simp only [List.length_append, List.length_map, List.length_take, List.length_drop, List.length_cons, List.length_nil]; omega) ?_
    top_reprB
    rename_i x hx
    have hT : ∀ p ∈ A.take r.toNat, Ot p := fun p hp => hO p (List.mem_of_mem_take hp)
    have hD : ∀ p ∈ A.drop r.toNat, Ot p := fun p hp => hO p (List.mem_of_mem_drop hp)
    have key := q (A.take r.toNat ++ (s, sy) :: A.drop r.toNat) [("so.0", .tuple [.str "unlike", .tuple [.str x.1]], 3)] s2 g2 (by simp only [List.length_append, List.length_take, List.length_drop, List.length_cons]; omega) (by show 1 < 1000; decide)
      (by
        have e : saidL (A.take r.toNat ++ (s, sy) :: A.drop r.toNat) [("so.0", .tuple [.str "unlike", .tuple [.str x.1]], 3)] = putM (putAllM (A.take r.toNat ++ (s, sy) :: A.drop r.toNat) []) "so.0" (.tuple [.str "unlike", .tuple [.str x.1]]) := rfl
        rw [e, getM_put, if_neg hs1]
        exact getM_last _ _ _ _ _ (ot_not hD hs2 hs3))
      (by rw [hp]; simp [hs1])
    have e2 : (A.take r.toNat).map eF ++ [PyData.tuple [.str s, sy]] ++ (A.drop r.toNat).map eF = (A.take r.toNat ++ (s, sy) :: A.drop r.toNat).map eF := by
      rw [List.map_append, List.map_cons, List.append_assoc]; rfl
    rw [e2]
    exact key
  · rename_i r s2 g2 r0 r1 hp x hx
    refine q A [("so.0", .tuple [.str "unlike", .tuple [.str x.1]], 3), (s, sy, price)] s2 g2 (by omega) (by show 2 < 1000; decide) ?_ ?_
    · have e : saidL A [("so.0", .tuple [.str "unlike", .tuple [.str x.1]], 3), (s, sy, price)] = putM (putM (putAllM A []) "so.0" (.tuple [.str "unlike", .tuple [.str x.1]])) s sy := rfl
      rw [e, getM_put, if_pos rfl]
    · rw [decide_eq_false hp]; simp
end
section
open PySem.W
local macro_rules | `(tactic| allgen_close_more) => `(tactic| first
  | (with_reducible refine draw_w ?h1 ?h2 ?h3 ?_; (case h1 => assumption); (case h2 => allgen_close2_more); (case h3 => allgen_close2_more); intro _ _ _ _ _))
theorem cut_both {α : Type} (f : α → D) (xs : List α) (m : Int) (h0 : 0 ≤ m) (h1 : m + 1 ≤ xs.length) : PD.cutD (xs.map f) (some 1) (some (m + 1)) = ((xs.drop 1).take m.toNat).map f := by
  obtain ⟨k, rfl⟩ := Int.eq_ofNat_of_zero_le h0
  have e1 : ((k : Int) + 1) = ((k + 1 : Nat) : Int) := by omega
  have e2 : (1 : Int) = ((1 : Nat) : Int) := rfl
  unfold PD.cutD
  rw [e1, e2, HT.sIx_nat, HT.sIx_nat, List.length_map, Nat.min_eq_left (by omega), Nat.min_eq_left (by omega), ← List.map_drop, ← List.map_take]
  congr 2
def Pt2 (s : Str) (m r : D) : Prop := Pl 8 r ∧ ∀ {Q : D → List D → Prop}, (∀ es, es.length = 2 → Q r es) → PD.Wq (f_telling_rows [m, .str s]) Q
theorem pt2_of {us : Ux} {s : Str} {sy : Sy} {b : Bool} {firm : Fm} {soft : So} (h : Xs us) (hs : SyOk us sy) (hM : MoOk s sy b firm soft) (hk : PyData.strOk s = true) : Pt2 s (eMo us firm soft) (.tuple ((outOf us s sy b).map eRw)) := by
  have hr := rows_rf h hs
  refine ⟨?_, fun q => telling_w h hs hM hk q⟩
  have hl : (outOf us s sy b).length < 100000 := by
    unfold outOf
    split
    · rw [List.length_map]; exact hr.1
    · exact hr.1
  refine (Pl_map (n := 6) (by omega) fun r hrm => ?_).mono (by decide)
  unfold outOf at hrm
  split at hrm
  · obtain ⟨r0, h0, rfl⟩ := List.mem_map.mp hrm
    exact pl_rw (frt_ok (kept_ok hk) (hr.2 r0 h0).1 (hr.2 r0 h0).2)
  · exact pl_rw (hr.2 r hrm).1
structure Rel (s : Str) (ms rs : List D) (k : Nat) : Prop where
  l1 : ms.length = k
  l2 : rs.length = k
  at_ : ∀ (i : Nat) (m r : D), ms[i]? = some m → rs[i]? = some r → Pt2 s m r
theorem Rel.snoc {s : Str} {ms rs : List D} {k : Nat} {m r : D} (h : Rel s ms rs k) (p : Pt2 s m r) : Rel s (ms ++ [m]) (rs ++ [r]) (k + 1) := by
  refine ⟨by rw [List.length_append, h.l1]; rfl, by rw [List.length_append, h.l2]; rfl, fun i m' r' h1 h2 => ?_⟩
  by_cases hi : i < k
  · rw [List.getElem?_append_left (by rw [h.l1]; exact hi)] at h1
    rw [List.getElem?_append_left (by rw [h.l2]; exact hi)] at h2
    exact h.at_ i m' r' h1 h2
  · have hk : i = k := by
      have := (List.getElem?_eq_some_iff.mp h1).1
      rw [List.length_append, h.l1] at this
      simp at this
      omega
    subst hk
    rw [List.getElem?_append_right (by rw [h.l1]; exact Nat.le_refl _), h.l1, Nat.sub_self] at h1
    rw [List.getElem?_append_right (by rw [h.l2]; exact Nat.le_refl _), h.l2, Nat.sub_self] at h2
    cases h1
    cases h2
    exact p
theorem law_w {ns : List Int} (h : ns.length ≤ 63) {Q : D → List D → Prop} (q : ∀ es, es.length = 1 → Q (.bool true) es) : PD.Wq (f_law [.list (ns.map .int)]) Q := by
  unfold f_law m_law
  rw [q_runD]
  refine seq_cut (fun ρ => ∃ s0, Sd s0 ∧ ρ = [some (false, .list (ns.map .int)), some (true, s0), none, none, none, none, none, none, none, none, none, none, none]) ?_ fun ρ ⟨s0, g0, e1⟩ => ?_
  · top_reprB
    refine pool_w h fun s hs => ?_
    top_reprB
    exact ⟨_, hs, rfl⟩
  subst e1
  refine seq_cut (fun ρ => ∃ (s0 : D) (zs : List Str), Sd s0 ∧ zs.Perm L0 ∧ ρ = [some (false, .list (ns.map .int)), some (true, s0), some (false, .list (zs.map .str)), none, none, none, none, none, none, none, none, none, none]) ?_ fun ρ ⟨s1, zs, g1, hz, e1⟩ => ?_
  · top_reprB
    refine names_w g0 fun zs s hs hz => ?_
    top_reprB
    exact ⟨_, zs, hs, hz, rfl⟩
  subst e1
  refine seq_cut (fun ρ => ρ = [some (false, .list (ns.map .int)), some (true, s1), some (false, .list (zs.map .str)), some (true, .list []), none, none, none, none, none, none, none, none, none]) ?_ fun ρ e1 => ?_
  · top_reprB
  subst e1
  refine seq_cut (fun ρ => ρ = [some (false, .list (ns.map .int)), some (true, s1), some (false, .list (zs.map .str)), some (true, .list []), some (true, .list []), none, none, none, none, none, none, none, none]) ?_ fun ρ e1 => ?_
  · top_reprB
  subst e1
  refine seq_cut (fun ρ => ∃ (s0 : D) (b : Bool), Sd s0 ∧ ρ = [some (false, .list (ns.map .int)), some (true, s0), some (false, .list (zs.map .str)), some (true, .list []), some (true, .list []), some (false, .bool b), none, none, none, none, none, none, none]) ?_ fun ρ ⟨s2, b, g2, e1⟩ => ?_
  · top_reprB
    exact ⟨_, _, by assumption, rfl⟩
  subst e1
  have hzl : zs.length = 30 := hz.length_eq
  obtain ⟨s, zs', hz'⟩ : ∃ s zs', zs = s :: zs' := by
    cases zs with
    | nil => simp at hzl
    | cons s r => exact ⟨s, r, rfl⟩
  have hs := draws_ok hz (x := s) (by rw [hz']; simp)
  have hnd : (zs.drop 1).Nodup := (draws_nd hz).sublist (List.drop_sublist _ _)
  have hok : ∀ x ∈ zs.drop 1, PyData.strOk x = true := fun x hx => (draws_ok hz (List.mem_of_mem_drop hx)).1
  have h29 : (zs.drop 1).length = 29 := by rw [List.length_drop, hzl]
  refine seq_cut (fun ρ => ∃ (s0 : D) (ms rs : List D) (a b' c d e f g' j : Option (Bool × D)), Sd s0 ∧ Rel s ms rs 4 ∧ ρ = [some (false, .list (ns.map .int)), some (true, s0), some (false, .list (zs.map .str)), some (true, .list ms), some (true, .list rs), a, b', c, d, e, f, g', j]) ?_ fun ρ ⟨s3, ms, rs, a, b', c, d, e, f, g', j, g3, hR, e1⟩ => ?_
  · top_reprB
    refine W_forR (fun k ρ => ∃ (s0 : D) (ms rs : List D) (b' c d e f g' j : Option (Bool × D)), Sd s0 ∧ Rel s ms rs k ∧ ρ = [some (false, .list (ns.map .int)), some (true, s0), some (false, .list (zs.map .str)), some (true, .list ms), some (true, .list rs), some (false, .bool b), b', c, d, e, f, g', j]) ⟨s2, [], [], none, none, none, none, none, none, none, g2, ⟨rfl, rfl, fun i m r h1 => by simp at h1⟩, rfl⟩ (fun k ρ hk ⟨s0, ms, rs, b', c, d, e, f, g', j, g0, hR, e1⟩ => ?_) fun ρ ⟨s0, ms, rs, b', c, d, e, f, g', j, g0, hR, e1⟩ => ?_
    · have hk4 : k < 4 := by omega
      subst e1
      refine ⟨[some (false, .list (ns.map .int)), some (true, s0), some (false, .list (zs.map .str)), some (true, .list ms), some (true, .list rs), some (false, .bool b), some (false, .int (0 + (k : Nat))), c, d, e, f, g', j], rfl, ?_⟩
      refine seq_cut (fun ρ => ∃ (s0 : D) (m : Int), Sd s0 ∧ 1 ≤ m ∧ m ≤ 12 ∧ ρ = [some (false, .list (ns.map .int)), some (true, s0), some (false, .list (zs.map .str)), some (true, .list ms), some (true, .list rs), some (false, .bool b), some (false, .int (0 + (k : Nat))), some (false, .int m), d, e, f, g', j]) ?_ fun ρ ⟨s4, m, g4, m0, m1, e1⟩ => ?_
      · cases b <;> top_reprB
        all_goals exact ⟨_, _, by assumption, by omega, by omega, rfl⟩
      subst e1
      refine seq_cut (fun ρ => ∃ (s0 : D) (us : Ux), Sd s0 ∧ Xs us ∧ nms us = (zs.drop 1).take m.toNat ∧ ρ = [some (false, .list (ns.map .int)), some (true, s0), some (false, .list (zs.map .str)), some (true, .list ms), some (true, .list rs), some (false, .bool b), some (false, .int (0 + (k : Nat))), some (false, .int m), some (false, .tuple (us.map eDm)), e, f, g', j]) ?_ fun ρ ⟨s5, us, g5, hX, hU, e1⟩ => ?_
      · cases b <;> top_reprB
        all_goals
          rw [cut_from PyData.str zs 1 (by decide)]
          refine unknowns_w g4 (by decide) (by decide) (by omega) (by omega) m1 hnd hok fun us s' h1 h2 h3 => ?_
          top_reprB
          exact ⟨s', us, h1, h2, h3, rfl⟩
      subst e1
      have hul : us.length = m.toNat := by
        have := congrArg List.length hU
        rw [List.length_take, h29] at this
        unfold nms at this
        rw [List.length_map] at this
        omega
      refine seq_cut (fun ρ => ∃ (s0 : D) (sy : Sy), Sd s0 ∧ SyOk us sy ∧ ρ = [some (false, .list (ns.map .int)), some (true, s0), some (false, .list (zs.map .str)), some (true, .list ms), some (true, .list rs), some (false, .bool b), some (false, .int (0 + (k : Nat))), some (false, .int m), some (false, .tuple (us.map eDm)), some (false, eSy sy), f, g', j]) ?_ fun ρ ⟨s6, sy, g6, hS, e1⟩ => ?_
      · top_reprB
        show Wp (gDictQ (.tuple (us.map fun p => .tuple [.str p.1, eI p.2]))) _
        refine w_dictST (ev := eI) hX.nd ?_
        have hc := cut_both PyData.str zs m (by omega) (by omega)
        rw [← hU] at hc
        change PD.Wq (mCons _ _ _) _
        cases b <;> top_reprB
        all_goals
          try rw [hc]
        all_goals try
          refine sums_w g5 hX (by omega) fun sy s' h1 h2 => ?_
          top_reprB
          exact ⟨s', sy, h1, h2, rfl⟩
      subst e1
      refine seq_cut (fun ρ => ∃ (s0 : D) (p : Int), Sd s0 ∧ (p = 0 ∨ p = 100) ∧ ρ = [some (false, .list (ns.map .int)), some (true, s0), some (false, .list (zs.map .str)), some (true, .list ms), some (true, .list rs), some (false, .bool b), some (false, .int (0 + (k : Nat))), some (false, .int m), some (false, .tuple (us.map eDm)), some (false, eSy sy), some (false, .int p), g', j]) ?_ fun ρ ⟨s7, p, g7, hp, e1⟩ => ?_
      · top_reprB
        refine W_ints (ns := [0, 0, 0, 100]) (by omega) (by simp only [List.length_cons, List.length_nil]; omega) fun v hv => ?_
        top_reprB
        exact ⟨_, v, by assumption, by simpa using hv, rfl⟩
      subst e1
      top_reprB
      rename_i x hx
      have hxs : x = s := by rw [hz'] at hx; simpa using hx.symm
      subst hxs
      refine due_w hX hS hs.1 fun es he => ?_
      refine ⟨he, ?_⟩
      rw [putBack_n4]
      top_reprB
      have hrl : rs.length < 16777216 := by have := hR.l2; omega
      have hml : ms.length < 16777216 := by have := hR.l1; omega
      refine w_app hrl ?_
      top_reprB
      rename_i y hy n s8 g8 n0 n1
      have hys : y = x := by rw [hz'] at hy; simpa using hy.symm
      subst hys
      refine model_w g8 hX (by omega) n0 (by omega) hs.2.1 hs.2.2.1 hs.2.2.2 fun firm soft s9 g9 f1 f2 hat hdec => ?_
      have hM : MoOk y sy (decide (0 < p)) firm soft := by
        refine ⟨f1, f2, hat, ?_⟩
        rw [hdec]
        rcases hp with rfl | rfl <;> rfl
      have hP := pt2_of hX hS hM hs.1
      refine ⟨rfl, ?_⟩
      refine w_app hml ?_
      top_reprB
      exact ⟨s9, _, _, _, _, _, _, _, _, _, g9, hR.snoc hP, rfl⟩
    · exact ⟨s0, ms, rs, _, b', c, d, e, f, g', j, g0, hR, e1⟩
  subst e1
  top_reprB
  refine W_forM [0, 1, 2, 3, 0] .int (fun pre ρ => ∃ (a b' c d e f g' j : Option (Bool × D)), ρ = [some (false, .list (ns.map .int)), some (true, s3), some (false, .list (zs.map .str)), some (true, .list ms), some (true, .list rs), a, b', c, d, e, f, g', j]) ⟨_, _, _, _, _, _, _, _, rfl⟩ (fun pre k post ρ hk ⟨a, b', c, d, e, f, g', j, e1⟩ => ?_) fun ρ ⟨a, b', c, d, e, f, g', j, e1⟩ => ?_
  · subst e1
    have hk4 : 0 ≤ k ∧ k < 4 := by
      have : k ∈ ([0, 1, 2, 3, 0] : List Int) := by rw [hk]; simp
      simp only [List.mem_cons, List.not_mem_nil, or_false] at this
      omega
    top_reprB
    rename_i x hx
    have hxs : x = s := by rw [hz'] at hx; simpa using hx.symm
    subst hxs
    refine W_atI hk4.1 (by rw [hR.l1]; omega) fun md hmd => ?_
    have hkr : k.toNat < rs.length := by rw [hR.l2]; omega
    have hrd : rs[k.toNat]? = some rs[k.toNat] := List.getElem?_eq_getElem hkr
    generalize rs[k.toNat] = rd at hrd
    have hP := hR.at_ _ _ _ hmd hrd
    top_reprB
    show PD.Wq (f_telling_rows [md, .str x]) _
    refine hP.2 fun es he => ?_
    top_reprB
    refine W_atI hk4.1 (by rw [hR.l2]; omega) fun d hd => ?_
    have hdr : d = rd := by rw [hrd] at hd; cases hd; rfl
    subst hdr
    top_reprB
    refine w_neSelf hP.1 (by decide) ?_
    top_reprB
    refine W_atI hk4.1 (by rw [hR.l2]; omega) fun d' hd' => ?_
    have hdr : d' = d := by rw [hrd] at hd'; cases hd'; rfl
    subst hdr
    top_reprB
    refine so_w 8 _ hP.1 ?_
    top_reprB
    exact ⟨_, _, _, _, _, _, _, _, rfl⟩
  · subst e1
    top_reprB
    exact q _ rfl
end
end K17W
set_option Elab.async false
set_option linter.all false
set_option maxRecDepth 100000
set_option maxHeartbeats 4000000
namespace K17W
open PySem PySem.Spec PyProof.Rows L2 GxR GenX OwnK PD
theorem kb_to_telling_rows_s_model {kV doc pm cdv ct : Value} {an : Option Addr} (s : Shared) (us ws : List Value) (hl : (gg_telling_rows_s_model us ws).length = P_telling_rows.length) : BindsTo s (PySem.W.fnOf "telling_rows" "telling_rows" (defArgs s_telling_rows) (defBody s_telling_rows) (defScope s_telling_rows) .none kV doc pm an cdv ct) ⟨us, [("s" : Str), ("model" : Str)].zip ws⟩ (P_telling_rows.zip (gg_telling_rows_s_model us ws)) := by
  unfold gg_telling_rows_s_model at hl ⊢
  split at hl
  · exact .of_eq rfl
  · exact absurd hl (by decide)
theorem kb_rel_telling_rows_s_model {vs zs : List V} {us ws : List Value} (r : Vals vs us) (q : Vals zs ws) : Vals (gV_telling_rows_s_model vs zs) (gg_telling_rows_s_model us ws) := by
  unfold gg_telling_rows_s_model gV_telling_rows_s_model
  cases r with
  | cons a r => exact .nil
  | nil =>
    cases q with
    | nil => exact .nil
    | cons a0 q =>
      cases q with
      | nil => exact .nil
      | cons a1 q =>
        cases q with
        | cons _ _ => exact .nil
        | nil => exact (.cons a1 (.cons a0 .nil))
theorem law_all (ns : List Int) (hl : ns.length ≤ 63) : ∃ es, f_law [.list (ns.map .int)] = some (.bool true, es) ∧ es.length = 1 := by
  obtain ⟨⟨d, es⟩, e, h1, h2⟩ := law_w (Q := fun d es => d = .bool true ∧ es.length = 1) hl (fun es h => ⟨rfl, h⟩)
  exact ⟨es, by rw [e]; simp only [] at h1; rw [h1], h2⟩
theorem all_mk {q : Program} {l : PySem.W.OpenLaw} {w : World} {K : PySem.W.Frag} {h : Heap} {mg : Str → Option Value} {fa : Addr} {f0 g0 f1 g1 f2 g2 f3 g3 f4 g4 f5 g5 f6 g6 f7 g7 f8 g8 f9 g9 f10 g10 f11 g11 f12 g12 f13 g13 f14 g14 f15 g15 f16 g16 f17 g17 f18 g18 f19 g19 f20 g20 f21 g21 f22 g22 f23 g23 f24 g24 f25 g25 f26 g26 f27 g27 f28 g28 f29 g29 f30 g30 f31 g31 f32 g32 f33 g33 f34 g34 f35 g35 f36 g36 f37 g37 f38 g38 f39 g39 f40 g40 : Addr} (X : K.In h) (G : h.Ns mainGlobals mg) (hfa : mg "law" = some (.ref fa)) (tb : TabsOf q K h)
    {od0 an0 od1 an1 od2 an2 od3 an3 od4 an4 od5 an5 od6 an6 od7 an7 od8 an8 od9 an9 od10 an10 od11 an11 od12 an12 od13 an13 od14 an14 od15 an15 od16 an16 od17 an17 od18 an18 od19 an19 od20 an20 od21 an21 od22 an22 od23 an23 od24 an24 od25 an25 od26 an26 od27 an27 od28 an28 od29 an29 od30 an30 od31 an31 od32 an32 od33 an33 od34 an34 od35 an35 od36 an36 od37 an37 od38 an38 od39 an39 od40 an40 : Option Addr} {sl0 sl1 sl2 sl3 sl4 sl5 sl6 sl7 sl8 sl9 sl10 sl11 sl12 sl13 sl14 sl15 sl16 sl17 sl18 sl19 sl20 sl21 sl22 sl23 sl24 sl25 sl26 sl27 sl28 sl29 sl30 sl31 sl32 sl33 sl34 sl35 sl36 sl37 sl38 sl39 sl40 : Array (Option Value)} {oc0 kV0 dc0 pm0 ct0 oc1 kV1 dc1 pm1 ct1 oc2 kV2 dc2 pm2 ct2 oc3 kV3 dc3 pm3 ct3 oc4 kV4 dc4 pm4 ct4 oc5 kV5 dc5 pm5 ct5 oc6 kV6 dc6 pm6 ct6 oc7 kV7 dc7 pm7 ct7 oc8 kV8 dc8 pm8 ct8 oc9 kV9 dc9 pm9 ct9 oc10 kV10 dc10 pm10 ct10 oc11 kV11 dc11 pm11 ct11 oc12 kV12 dc12 pm12 ct12 oc13 kV13 dc13 pm13 ct13 oc14 kV14 dc14 pm14 ct14 oc15 kV15 dc15 pm15 ct15 oc16 kV16 dc16 pm16 ct16 oc17 kV17 dc17 pm17 ct17 oc18 kV18 dc18 pm18 ct18 oc19 kV19 dc19 pm19 ct19 oc20 kV20 dc20 pm20 ct20 oc21 kV21 dc21 pm21 ct21 oc22 kV22 dc22 pm22 ct22 oc23 kV23 dc23 pm23 ct23 oc24 kV24 dc24 pm24 ct24 oc25 kV25 dc25 pm25 ct25 oc26 kV26 dc26 pm26 ct26 oc27 kV27 dc27 pm27 ct27 oc28 kV28 dc28 pm28 ct28 oc29 kV29 dc29 pm29 ct29 oc30 kV30 dc30 pm30 ct30 oc31 kV31 dc31 pm31 ct31 oc32 kV32 dc32 pm32 ct32 oc33 kV33 dc33 pm33 ct33 oc34 kV34 dc34 pm34 ct34 oc35 kV35 dc35 pm35 ct35 oc36 kV36 dc36 pm36 ct36 oc37 kV37 dc37 pm37 ct37 oc38 kV38 dc38 pm38 ct38 oc39 kV39 dc39 pm39 ct39 oc40 kV40 dc40 pm40 ct40 : Value}
    {p0 : Addr} {es0 : Array DictEntry} {nn0 : Nat}
    (a0 : PySem.W.nsIn K mainGlobals "domains_of" = some (some (.ref f0))) (l0 : K.lookup f0 = some ⟨oc0, od0, .func (PySem.W.fnOf "domains_of" "domains_of" (defArgs s_domains_of) (defBody s_domains_of) (defScope s_domains_of) .none kV0 dc0 pm0 an0 (.ref g0) ct0), sl0⟩) (c0 : PySem.W.codeIn K (.ref g0) "domains_of" = true) (k0 : PySem.W.keepIn K (.ref f0) = true)
    (a1 : PySem.W.nsIn K mainGlobals "said_in" = some (some (.ref f1))) (l1 : K.lookup f1 = some ⟨oc1, od1, .func (PySem.W.fnOf "said_in" "said_in" (defArgs s_said_in) (defBody s_said_in) (defScope s_said_in) .none kV1 dc1 pm1 an1 (.ref g1) ct1), sl1⟩) (c1 : PySem.W.codeIn K (.ref g1) "said_in" = true) (k1 : PySem.W.keepIn K (.ref f1) = true)
    (a2 : PySem.W.nsIn K mainGlobals "prices_of" = some (some (.ref f2))) (l2 : K.lookup f2 = some ⟨oc2, od2, .func (PySem.W.fnOf "prices_of" "prices_of" (defArgs s_prices_of) (defBody s_prices_of) (defScope s_prices_of) .none kV2 dc2 pm2 an2 (.ref g2) ct2), sl2⟩) (c2 : PySem.W.codeIn K (.ref g2) "prices_of" = true) (k2 : PySem.W.keepIn K (.ref f2) = true)
    (a3 : PySem.W.nsIn K mainGlobals "norm" = some (some (.ref f3))) (l3 : K.lookup f3 = some ⟨oc3, od3, .func (PySem.W.fnOf "norm" "norm" (defArgs s_norm) (defBody s_norm) (defScope s_norm) .none kV3 dc3 pm3 an3 (.ref g3) ct3), sl3⟩) (c3 : PySem.W.codeIn K (.ref g3) "norm" = true) (k3 : PySem.W.keepIn K (.ref f3) = true)
    (a4 : PySem.W.nsIn K mainGlobals "upward" = some (some (.ref f4))) (l4 : K.lookup f4 = some ⟨oc4, od4, .func (PySem.W.fnOf "upward" "upward" (defArgs s_upward) (defBody s_upward) (defScope s_upward) .none kV4 dc4 pm4 an4 (.ref g4) ct4), sl4⟩) (c4 : PySem.W.codeIn K (.ref g4) "upward" = true) (k4 : PySem.W.keepIn K (.ref f4) = true)
    (a5 : PySem.W.nsIn K mainGlobals "at_most" = some (some (.ref f5))) (l5 : K.lookup f5 = some ⟨oc5, od5, .func (PySem.W.fnOf "at_most" "at_most" (defArgs s_at_most) (defBody s_at_most) (defScope s_at_most) .none kV5 dc5 pm5 an5 (.ref g5) ct5), sl5⟩) (c5 : PySem.W.codeIn K (.ref g5) "at_most" = true) (k5 : PySem.W.keepIn K (.ref f5) = true)
    (a6 : PySem.W.nsIn K mainGlobals "at_least" = some (some (.ref f6))) (l6 : K.lookup f6 = some ⟨oc6, od6, .func (PySem.W.fnOf "at_least" "at_least" (defArgs s_at_least) (defBody s_at_least) (defScope s_at_least) .none kV6 dc6 pm6 an6 (.ref g6) ct6), sl6⟩) (c6 : PySem.W.codeIn K (.ref g6) "at_least" = true) (k6 : PySem.W.keepIn K (.ref f6) = true)
    (a7 : PySem.W.nsIn K mainGlobals "value_pairs" = some (some (.ref f7))) (l7 : K.lookup f7 = some ⟨oc7, od7, .func (PySem.W.fnOf "value_pairs" "value_pairs" (defArgs s_value_pairs) (defBody s_value_pairs) (defScope s_value_pairs) .none kV7 dc7 pm7 an7 (.ref g7) ct7), sl7⟩) (c7 : PySem.W.codeIn K (.ref g7) "value_pairs" = true) (k7 : PySem.W.keepIn K (.ref f7) = true)
    (a8 : PySem.W.nsIn K mainGlobals "upward_pairs" = some (some (.ref f8))) (l8 : K.lookup f8 = some ⟨oc8, od8, .func (PySem.W.fnOf "upward_pairs" "upward_pairs" (defArgs s_upward_pairs) (defBody s_upward_pairs) (defScope s_upward_pairs) .none kV8 dc8 pm8 an8 (.ref g8) ct8), sl8⟩) (c8 : PySem.W.codeIn K (.ref g8) "upward_pairs" = true) (k8 : PySem.W.keepIn K (.ref f8) = true)
    (a9 : PySem.W.nsIn K mainGlobals "sum_row" = some (some (.ref f9))) (l9 : K.lookup f9 = some ⟨oc9, od9, .func (PySem.W.fnOf "sum_row" "sum_row" (defArgs s_sum_row) (defBody s_sum_row) (defScope s_sum_row) .none kV9 dc9 pm9 an9 (.ref g9) ct9), sl9⟩) (c9 : PySem.W.codeIn K (.ref g9) "sum_row" = true) (k9 : PySem.W.keepIn K (.ref f9) = true)
    (a10 : PySem.W.nsIn K mainGlobals "with_part" = some (some (.ref f10))) (l10 : K.lookup f10 = some ⟨oc10, od10, .func (PySem.W.fnOf "with_part" "with_part" (defArgs s_with_part) (defBody s_with_part) (defScope s_with_part) .none kV10 dc10 pm10 an10 (.ref g10) ct10), sl10⟩) (c10 : PySem.W.codeIn K (.ref g10) "with_part" = true) (k10 : PySem.W.keepIn K (.ref f10) = true)
    (a11 : PySem.W.nsIn K mainGlobals "values_of" = some (some (.ref f11))) (l11 : K.lookup f11 = some ⟨oc11, od11, .func (PySem.W.fnOf "values_of" "values_of" (defArgs s_values_of) (defBody s_values_of) (defScope s_values_of) .none kV11 dc11 pm11 an11 (.ref g11) ct11), sl11⟩) (c11 : PySem.W.codeIn K (.ref g11) "values_of" = true) (k11 : PySem.W.keepIn K (.ref f11) = true)
    (a12 : PySem.W.nsIn K mainGlobals "having" = some (some (.ref f12))) (l12 : K.lookup f12 = some ⟨oc12, od12, .func (PySem.W.fnOf "having" "having" (defArgs s_having) (defBody s_having) (defScope s_having) .none kV12 dc12 pm12 an12 (.ref g12) ct12), sl12⟩) (c12 : PySem.W.codeIn K (.ref g12) "having" = true) (k12 : PySem.W.keepIn K (.ref f12) = true)
    (a13 : PySem.W.nsIn K mainGlobals "tell_least" = some (some (.ref f13))) (l13 : K.lookup f13 = some ⟨oc13, od13, .func (PySem.W.fnOf "tell_least" "tell_least" (defArgs s_tell_least) (defBody s_tell_least) (defScope s_tell_least) .none kV13 dc13 pm13 an13 (.ref g13) ct13), sl13⟩) (c13 : PySem.W.codeIn K (.ref g13) "tell_least" = true) (k13 : PySem.W.keepIn K (.ref f13) = true)
    (a14 : PySem.W.nsIn K mainGlobals "tell_same" = some (some (.ref f14))) (l14 : K.lookup f14 = some ⟨oc14, od14, .func (PySem.W.fnOf "tell_same" "tell_same" (defArgs s_tell_same) (defBody s_tell_same) (defScope s_tell_same) .none kV14 dc14 pm14 an14 (.ref g14) ct14), sl14⟩) (c14 : PySem.W.codeIn K (.ref g14) "tell_same" = true) (k14 : PySem.W.keepIn K (.ref f14) = true)
    (a15 : PySem.W.nsIn K mainGlobals "tell_unlike" = some (some (.ref f15))) (l15 : K.lookup f15 = some ⟨oc15, od15, .func (PySem.W.fnOf "tell_unlike" "tell_unlike" (defArgs s_tell_unlike) (defBody s_tell_unlike) (defScope s_tell_unlike) .none kV15 dc15 pm15 an15 (.ref g15) ct15), sl15⟩) (c15 : PySem.W.codeIn K (.ref g15) "tell_unlike" = true) (k15 : PySem.W.keepIn K (.ref f15) = true)
    (a16 : PySem.W.nsIn K mainGlobals "tell_counts" = some (some (.ref f16))) (l16 : K.lookup f16 = some ⟨oc16, od16, .func (PySem.W.fnOf "tell_counts" "tell_counts" (defArgs s_tell_counts) (defBody s_tell_counts) (defScope s_tell_counts) .none kV16 dc16 pm16 an16 (.ref g16) ct16), sl16⟩) (c16 : PySem.W.codeIn K (.ref g16) "tell_counts" = true) (k16 : PySem.W.keepIn K (.ref f16) = true)
    (a17 : PySem.W.nsIn K mainGlobals "tell_works" = some (some (.ref f17))) (l17 : K.lookup f17 = some ⟨oc17, od17, .func (PySem.W.fnOf "tell_works" "tell_works" (defArgs s_tell_works) (defBody s_tell_works) (defScope s_tell_works) .none kV17 dc17 pm17 an17 (.ref g17) ct17), sl17⟩) (c17 : PySem.W.codeIn K (.ref g17) "tell_works" = true) (k17 : PySem.W.keepIn K (.ref f17) = true)
    (a18 : PySem.W.nsIn K mainGlobals "telling_rows_of" = some (some (.ref f18))) (l18 : K.lookup f18 = some ⟨oc18, od18, .func (PySem.W.fnOf "telling_rows_of" "telling_rows_of" (defArgs s_telling_rows_of) (defBody s_telling_rows_of) (defScope s_telling_rows_of) .none kV18 dc18 pm18 an18 (.ref g18) ct18), sl18⟩) (c18 : PySem.W.codeIn K (.ref g18) "telling_rows_of" = true) (k18 : PySem.W.keepIn K (.ref f18) = true)
    (a19 : PySem.W.nsIn K mainGlobals "telling_rows" = some (some (.ref f19))) (l19 : K.lookup f19 = some ⟨oc19, od19, .func (PySem.W.fnOf "telling_rows" "telling_rows" (defArgs s_telling_rows) (defBody s_telling_rows) (defScope s_telling_rows) .none kV19 dc19 pm19 an19 (.ref g19) ct19), sl19⟩) (c19 : PySem.W.codeIn K (.ref g19) "telling_rows" = true) (k19 : PySem.W.keepIn K (.ref f19) = true)
    (a20 : PySem.W.nsIn K mainGlobals "_law_pool" = some (some (.ref f20))) (l20 : K.lookup f20 = some ⟨oc20, od20, .func (PySem.W.fnOf "_law_pool" "_law_pool" (defArgs s__law_pool) (defBody s__law_pool) (defScope s__law_pool) .none kV20 dc20 pm20 an20 (.ref g20) ct20), sl20⟩) (c20 : PySem.W.codeIn K (.ref g20) "_law_pool" = true) (k20 : PySem.W.keepIn K (.ref f20) = true)
    (a21 : PySem.W.nsIn K mainGlobals "_law_draw" = some (some (.ref f21))) (l21 : K.lookup f21 = some ⟨oc21, od21, .func (PySem.W.fnOf "_law_draw" "_law_draw" (defArgs s__law_draw) (defBody s__law_draw) (defScope s__law_draw) .none kV21 dc21 pm21 an21 (.ref g21) ct21), sl21⟩) (c21 : PySem.W.codeIn K (.ref g21) "_law_draw" = true) (k21 : PySem.W.keepIn K (.ref f21) = true)
    (a22 : PySem.W.nsIn K mainGlobals "_law_so" = some (some (.ref f22))) (l22 : K.lookup f22 = some ⟨oc22, od22, .func (PySem.W.fnOf "_law_so" "_law_so" (defArgs s__law_so) (defBody s__law_so) (defScope s__law_so) .none kV22 dc22 pm22 an22 (.ref g22) ct22), sl22⟩) (c22 : PySem.W.codeIn K (.ref g22) "_law_so" = true) (k22 : PySem.W.keepIn K (.ref f22) = true)
    (a23 : PySem.W.nsIn K mainGlobals "_law_names" = some (some (.ref f23))) (l23 : K.lookup f23 = some ⟨oc23, od23, .func (PySem.W.fnOf "_law_names" "_law_names" (defArgs s__law_names) (defBody s__law_names) (defScope s__law_names) .none kV23 dc23 pm23 an23 (.ref g23) ct23), sl23⟩) (c23 : PySem.W.codeIn K (.ref g23) "_law_names" = true) (k23 : PySem.W.keepIn K (.ref f23) = true)
    (a24 : PySem.W.nsIn K mainGlobals "_law_domain" = some (some (.ref f24))) (l24 : K.lookup f24 = some ⟨oc24, od24, .func (PySem.W.fnOf "_law_domain" "_law_domain" (defArgs s__law_domain) (defBody s__law_domain) (defScope s__law_domain) .none kV24 dc24 pm24 an24 (.ref g24) ct24), sl24⟩) (c24 : PySem.W.codeIn K (.ref g24) "_law_domain" = true) (k24 : PySem.W.keepIn K (.ref f24) = true)
    (a25 : PySem.W.nsIn K mainGlobals "_law_unknowns" = some (some (.ref f25))) (l25 : K.lookup f25 = some ⟨oc25, od25, .func (PySem.W.fnOf "_law_unknowns" "_law_unknowns" (defArgs s__law_unknowns) (defBody s__law_unknowns) (defScope s__law_unknowns) .none kV25 dc25 pm25 an25 (.ref g25) ct25), sl25⟩) (c25 : PySem.W.codeIn K (.ref g25) "_law_unknowns" = true) (k25 : PySem.W.keepIn K (.ref f25) = true)
    (a26 : PySem.W.nsIn K mainGlobals "_law_taken" = some (some (.ref f26))) (l26 : K.lookup f26 = some ⟨oc26, od26, .func (PySem.W.fnOf "_law_taken" "_law_taken" (defArgs s__law_taken) (defBody s__law_taken) (defScope s__law_taken) .none kV26 dc26 pm26 an26 (.ref g26) ct26), sl26⟩) (c26 : PySem.W.codeIn K (.ref g26) "_law_taken" = true) (k26 : PySem.W.keepIn K (.ref f26) = true)
    (a27 : PySem.W.nsIn K mainGlobals "_law_value" = some (some (.ref f27))) (l27 : K.lookup f27 = some ⟨oc27, od27, .func (PySem.W.fnOf "_law_value" "_law_value" (defArgs s__law_value) (defBody s__law_value) (defScope s__law_value) .none kV27 dc27 pm27 an27 (.ref g27) ct27), sl27⟩) (c27 : PySem.W.codeIn K (.ref g27) "_law_value" = true) (k27 : PySem.W.keepIn K (.ref f27) = true)
    (a28 : PySem.W.nsIn K mainGlobals "_law_model" = some (some (.ref f28))) (l28 : K.lookup f28 = some ⟨oc28, od28, .func (PySem.W.fnOf "_law_model" "_law_model" (defArgs s__law_model) (defBody s__law_model) (defScope s__law_model) .none kV28 dc28 pm28 an28 (.ref g28) ct28), sl28⟩) (c28 : PySem.W.codeIn K (.ref g28) "_law_model" = true) (k28 : PySem.W.keepIn K (.ref f28) = true)
    (a29 : PySem.W.nsIn K mainGlobals "_law_norm" = some (some (.ref f29))) (l29 : K.lookup f29 = some ⟨oc29, od29, .func (PySem.W.fnOf "_law_norm" "_law_norm" (defArgs s__law_norm) (defBody s__law_norm) (defScope s__law_norm) .none kV29 dc29 pm29 an29 (.ref g29) ct29), sl29⟩) (c29 : PySem.W.codeIn K (.ref g29) "_law_norm" = true) (k29 : PySem.W.keepIn K (.ref f29) = true)
    (a30 : PySem.W.nsIn K mainGlobals "_law_at_most" = some (some (.ref f30))) (l30 : K.lookup f30 = some ⟨oc30, od30, .func (PySem.W.fnOf "_law_at_most" "_law_at_most" (defArgs s__law_at_most) (defBody s__law_at_most) (defScope s__law_at_most) .none kV30 dc30 pm30 an30 (.ref g30) ct30), sl30⟩) (c30 : PySem.W.codeIn K (.ref g30) "_law_at_most" = true) (k30 : PySem.W.keepIn K (.ref f30) = true)
    (a31 : PySem.W.nsIn K mainGlobals "_law_at_least" = some (some (.ref f31))) (l31 : K.lookup f31 = some ⟨oc31, od31, .func (PySem.W.fnOf "_law_at_least" "_law_at_least" (defArgs s__law_at_least) (defBody s__law_at_least) (defScope s__law_at_least) .none kV31 dc31 pm31 an31 (.ref g31) ct31), sl31⟩) (c31 : PySem.W.codeIn K (.ref g31) "_law_at_least" = true) (k31 : PySem.W.keepIn K (.ref f31) = true)
    (a32 : PySem.W.nsIn K mainGlobals "_law_from" = some (some (.ref f32))) (l32 : K.lookup f32 = some ⟨oc32, od32, .func (PySem.W.fnOf "_law_from" "_law_from" (defArgs s__law_from) (defBody s__law_from) (defScope s__law_from) .none kV32 dc32 pm32 an32 (.ref g32) ct32), sl32⟩) (c32 : PySem.W.codeIn K (.ref g32) "_law_from" = true) (k32 : PySem.W.keepIn K (.ref f32) = true)
    (a33 : PySem.W.nsIn K mainGlobals "_law_sum_row" = some (some (.ref f33))) (l33 : K.lookup f33 = some ⟨oc33, od33, .func (PySem.W.fnOf "_law_sum_row" "_law_sum_row" (defArgs s__law_sum_row) (defBody s__law_sum_row) (defScope s__law_sum_row) .none kV33 dc33 pm33 an33 (.ref g33) ct33), sl33⟩) (c33 : PySem.W.codeIn K (.ref g33) "_law_sum_row" = true) (k33 : PySem.W.keepIn K (.ref f33) = true)
    (a34 : PySem.W.nsIn K mainGlobals "_law_unlike_rows" = some (some (.ref f34))) (l34 : K.lookup f34 = some ⟨oc34, od34, .func (PySem.W.fnOf "_law_unlike_rows" "_law_unlike_rows" (defArgs s__law_unlike_rows) (defBody s__law_unlike_rows) (defScope s__law_unlike_rows) .none kV34 dc34 pm34 an34 (.ref g34) ct34), sl34⟩) (c34 : PySem.W.codeIn K (.ref g34) "_law_unlike_rows" = true) (k34 : PySem.W.keepIn K (.ref f34) = true)
    (a35 : PySem.W.nsIn K mainGlobals "_law_counts_rows" = some (some (.ref f35))) (l35 : K.lookup f35 = some ⟨oc35, od35, .func (PySem.W.fnOf "_law_counts_rows" "_law_counts_rows" (defArgs s__law_counts_rows) (defBody s__law_counts_rows) (defScope s__law_counts_rows) .none kV35 dc35 pm35 an35 (.ref g35) ct35), sl35⟩) (c35 : PySem.W.codeIn K (.ref g35) "_law_counts_rows" = true) (k35 : PySem.W.keepIn K (.ref f35) = true)
    (a36 : PySem.W.nsIn K mainGlobals "_law_works_rows" = some (some (.ref f36))) (l36 : K.lookup f36 = some ⟨oc36, od36, .func (PySem.W.fnOf "_law_works_rows" "_law_works_rows" (defArgs s__law_works_rows) (defBody s__law_works_rows) (defScope s__law_works_rows) .none kV36 dc36 pm36 an36 (.ref g36) ct36), sl36⟩) (c36 : PySem.W.codeIn K (.ref g36) "_law_works_rows" = true) (k36 : PySem.W.keepIn K (.ref f36) = true)
    (a37 : PySem.W.nsIn K mainGlobals "_law_further" = some (some (.ref f37))) (l37 : K.lookup f37 = some ⟨oc37, od37, .func (PySem.W.fnOf "_law_further" "_law_further" (defArgs s__law_further) (defBody s__law_further) (defScope s__law_further) .none kV37 dc37 pm37 an37 (.ref g37) ct37), sl37⟩) (c37 : PySem.W.codeIn K (.ref g37) "_law_further" = true) (k37 : PySem.W.keepIn K (.ref f37) = true)
    (a38 : PySem.W.nsIn K mainGlobals "_law_sums" = some (some (.ref f38))) (l38 : K.lookup f38 = some ⟨oc38, od38, .func (PySem.W.fnOf "_law_sums" "_law_sums" (defArgs s__law_sums) (defBody s__law_sums) (defScope s__law_sums) .none kV38 dc38 pm38 an38 (.ref g38) ct38), sl38⟩) (c38 : PySem.W.codeIn K (.ref g38) "_law_sums" = true) (k38 : PySem.W.keepIn K (.ref f38) = true)
    (a39 : PySem.W.nsIn K mainGlobals "_law_due" = some (some (.ref f39))) (l39 : K.lookup f39 = some ⟨oc39, od39, .func (PySem.W.fnOf "_law_due" "_law_due" (defArgs s__law_due) (defBody s__law_due) (defScope s__law_due) .none kV39 dc39 pm39 an39 (.ref g39) ct39), sl39⟩) (c39 : PySem.W.codeIn K (.ref g39) "_law_due" = true) (k39 : PySem.W.keepIn K (.ref f39) = true)
    (a40 : PySem.W.nsIn K mainGlobals "law" = some (some (.ref f40))) (l40 : K.lookup f40 = some ⟨oc40, od40, .func (PySem.W.fnOf "law" "law" (defArgs s_law) (defBody s_law) (defScope s_law) .none kV40 dc40 pm40 an40 (.ref g40) ct40), sl40⟩) (c40 : PySem.W.codeIn K (.ref g40) "law" = true) (k40 : PySem.W.keepIn K (.ref f40) = true)
    (z0 : PySem.W.nsIn K mainGlobals "abs" = some none)
    (z1 : PySem.W.nsIn K mainGlobals "bool" = some none)
    (z2 : PySem.W.nsIn K mainGlobals "dict" = some none)
    (z3 : PySem.W.nsIn K mainGlobals "enumerate" = some none)
    (z4 : PySem.W.nsIn K mainGlobals "int" = some none)
    (z5 : PySem.W.nsIn K mainGlobals "isinstance" = some none)
    (z6 : PySem.W.nsIn K mainGlobals "len" = some none)
    (z7 : PySem.W.nsIn K mainGlobals "list" = some none)
    (z8 : PySem.W.nsIn K mainGlobals "max" = some none)
    (z9 : PySem.W.nsIn K mainGlobals "min" = some none)
    (z10 : PySem.W.nsIn K mainGlobals "range" = some none)
    (z11 : PySem.W.nsIn K mainGlobals "set" = some none)
    (z12 : PySem.W.nsIn K mainGlobals "sorted" = some none)
    (z13 : PySem.W.nsIn K mainGlobals "str" = some none)
    (z14 : PySem.W.nsIn K mainGlobals "tuple" = some none)
    (z15 : PySem.W.nsIn K mainGlobals "zip" = some none)
    (da0 : PySem.W.nsIn K mainGlobals "TELLING_ROWS" = some (some (.ref p0))) (dl0 : K.lookup p0 = some ⟨.type "dict", none, .dict es0 nn0, #[]⟩) (dk0 : PySem.W.KeysLit w.params es0.toList)
    (de0_0 : PySem.W.nsIn K p0 "least" = some (some (.ref f13)))
    (de0_1 : PySem.W.nsIn K p0 "same" = some (some (.ref f14)))
    (de0_2 : PySem.W.nsIn K p0 "unlike" = some (some (.ref f15)))
    (de0_3 : PySem.W.nsIn K p0 "counts" = some (some (.ref f16)))
    (de0_4 : PySem.W.nsIn K p0 "works" = some (some (.ref f17)))
    : LamX.LawAtS l w K CX0 10 63 "script" mg fa h := by
  have e := hfa.symm.trans (PySem.W.mg_of X G a40)
  cases e
  have F0 := fun_mk (st := s_domains_of) l0 c0 k0
  have F1 := fun_mk (st := s_said_in) l1 c1 k1
  have F2 := fun_mk (st := s_prices_of) l2 c2 k2
  have F3 := fun_mk (st := s_norm) l3 c3 k3
  have F4 := fun_mk (st := s_upward) l4 c4 k4
  have F5 := fun_mk (st := s_at_most) l5 c5 k5
  have F6 := fun_mk (st := s_at_least) l6 c6 k6
  have F7 := fun_mk (st := s_value_pairs) l7 c7 k7
  have F8 := fun_mk (st := s_upward_pairs) l8 c8 k8
  have F9 := fun_mk (st := s_sum_row) l9 c9 k9
  have F10 := fun_mk (st := s_with_part) l10 c10 k10
  have F11 := fun_mk (st := s_values_of) l11 c11 k11
  have F12 := fun_mk (st := s_having) l12 c12 k12
  have F13 := fun_mk (st := s_tell_least) l13 c13 k13
  have F14 := fun_mk (st := s_tell_same) l14 c14 k14
  have F15 := fun_mk (st := s_tell_unlike) l15 c15 k15
  have F16 := fun_mk (st := s_tell_counts) l16 c16 k16
  have F17 := fun_mk (st := s_tell_works) l17 c17 k17
  have F18 := fun_mk (st := s_telling_rows_of) l18 c18 k18
  have F19 := fun_mk (st := s_telling_rows) l19 c19 k19
  have F20 := fun_mk (st := s__law_pool) l20 c20 k20
  have F21 := fun_mk (st := s__law_draw) l21 c21 k21
  have F22 := fun_mk (st := s__law_so) l22 c22 k22
  have F23 := fun_mk (st := s__law_names) l23 c23 k23
  have F24 := fun_mk (st := s__law_domain) l24 c24 k24
  have F25 := fun_mk (st := s__law_unknowns) l25 c25 k25
  have F26 := fun_mk (st := s__law_taken) l26 c26 k26
  have F27 := fun_mk (st := s__law_value) l27 c27 k27
  have F28 := fun_mk (st := s__law_model) l28 c28 k28
  have F29 := fun_mk (st := s__law_norm) l29 c29 k29
  have F30 := fun_mk (st := s__law_at_most) l30 c30 k30
  have F31 := fun_mk (st := s__law_at_least) l31 c31 k31
  have F32 := fun_mk (st := s__law_from) l32 c32 k32
  have F33 := fun_mk (st := s__law_sum_row) l33 c33 k33
  have F34 := fun_mk (st := s__law_unlike_rows) l34 c34 k34
  have F35 := fun_mk (st := s__law_counts_rows) l35 c35 k35
  have F36 := fun_mk (st := s__law_works_rows) l36 c36 k36
  have F37 := fun_mk (st := s__law_further) l37 c37 k37
  have F38 := fun_mk (st := s__law_sums) l38 c38 k38
  have F39 := fun_mk (st := s__law_due) l39 c39 k39
  have F40 := fun_mk (st := s_law) l40 c40 k40
  let A : Ad := ⟨f0, g0, f1, g1, f2, g2, f3, g3, f4, g4, f5, g5, f6, g6, f7, g7, f8, g8, f9, g9, f10, g10, f11, g11, f12, g12, f13, g13, f14, g14, f15, g15, f16, g16, f17, g17, f18, g18, f19, g19, f20, g20, f21, g21, f22, g22, f23, g23, f24, g24, f25, g25, f26, g26, f27, g27, f28, g28, f29, g29, f30, g30, f31, g31, f32, g32, f33, g33, f34, g34, f35, g35, f36, g36, f37, g37, f38, g38, f39, g39, fa, g40, p0⟩
  let D : Fd := ⟨PySem.W.fnOf "domains_of" "domains_of" (defArgs s_domains_of) (defBody s_domains_of) (defScope s_domains_of) .none kV0 dc0 pm0 an0 (.ref g0) ct0, PySem.W.fnOf "said_in" "said_in" (defArgs s_said_in) (defBody s_said_in) (defScope s_said_in) .none kV1 dc1 pm1 an1 (.ref g1) ct1, PySem.W.fnOf "prices_of" "prices_of" (defArgs s_prices_of) (defBody s_prices_of) (defScope s_prices_of) .none kV2 dc2 pm2 an2 (.ref g2) ct2, PySem.W.fnOf "norm" "norm" (defArgs s_norm) (defBody s_norm) (defScope s_norm) .none kV3 dc3 pm3 an3 (.ref g3) ct3, PySem.W.fnOf "upward" "upward" (defArgs s_upward) (defBody s_upward) (defScope s_upward) .none kV4 dc4 pm4 an4 (.ref g4) ct4, PySem.W.fnOf "at_most" "at_most" (defArgs s_at_most) (defBody s_at_most) (defScope s_at_most) .none kV5 dc5 pm5 an5 (.ref g5) ct5, PySem.W.fnOf "at_least" "at_least" (defArgs s_at_least) (defBody s_at_least) (defScope s_at_least) .none kV6 dc6 pm6 an6 (.ref g6) ct6, PySem.W.fnOf "value_pairs" "value_pairs" (defArgs s_value_pairs) (defBody s_value_pairs) (defScope s_value_pairs) .none kV7 dc7 pm7 an7 (.ref g7) ct7, PySem.W.fnOf "upward_pairs" "upward_pairs" (defArgs s_upward_pairs) (defBody s_upward_pairs) (defScope s_upward_pairs) .none kV8 dc8 pm8 an8 (.ref g8) ct8, PySem.W.fnOf "sum_row" "sum_row" (defArgs s_sum_row) (defBody s_sum_row) (defScope s_sum_row) .none kV9 dc9 pm9 an9 (.ref g9) ct9, PySem.W.fnOf "with_part" "with_part" (defArgs s_with_part) (defBody s_with_part) (defScope s_with_part) .none kV10 dc10 pm10 an10 (.ref g10) ct10, PySem.W.fnOf "values_of" "values_of" (defArgs s_values_of) (defBody s_values_of) (defScope s_values_of) .none kV11 dc11 pm11 an11 (.ref g11) ct11, PySem.W.fnOf "having" "having" (defArgs s_having) (defBody s_having) (defScope s_having) .none kV12 dc12 pm12 an12 (.ref g12) ct12, PySem.W.fnOf "tell_least" "tell_least" (defArgs s_tell_least) (defBody s_tell_least) (defScope s_tell_least) .none kV13 dc13 pm13 an13 (.ref g13) ct13, PySem.W.fnOf "tell_same" "tell_same" (defArgs s_tell_same) (defBody s_tell_same) (defScope s_tell_same) .none kV14 dc14 pm14 an14 (.ref g14) ct14, PySem.W.fnOf "tell_unlike" "tell_unlike" (defArgs s_tell_unlike) (defBody s_tell_unlike) (defScope s_tell_unlike) .none kV15 dc15 pm15 an15 (.ref g15) ct15, PySem.W.fnOf "tell_counts" "tell_counts" (defArgs s_tell_counts) (defBody s_tell_counts) (defScope s_tell_counts) .none kV16 dc16 pm16 an16 (.ref g16) ct16, PySem.W.fnOf "tell_works" "tell_works" (defArgs s_tell_works) (defBody s_tell_works) (defScope s_tell_works) .none kV17 dc17 pm17 an17 (.ref g17) ct17, PySem.W.fnOf "telling_rows_of" "telling_rows_of" (defArgs s_telling_rows_of) (defBody s_telling_rows_of) (defScope s_telling_rows_of) .none kV18 dc18 pm18 an18 (.ref g18) ct18, PySem.W.fnOf "telling_rows" "telling_rows" (defArgs s_telling_rows) (defBody s_telling_rows) (defScope s_telling_rows) .none kV19 dc19 pm19 an19 (.ref g19) ct19, PySem.W.fnOf "_law_pool" "_law_pool" (defArgs s__law_pool) (defBody s__law_pool) (defScope s__law_pool) .none kV20 dc20 pm20 an20 (.ref g20) ct20, PySem.W.fnOf "_law_draw" "_law_draw" (defArgs s__law_draw) (defBody s__law_draw) (defScope s__law_draw) .none kV21 dc21 pm21 an21 (.ref g21) ct21, PySem.W.fnOf "_law_so" "_law_so" (defArgs s__law_so) (defBody s__law_so) (defScope s__law_so) .none kV22 dc22 pm22 an22 (.ref g22) ct22, PySem.W.fnOf "_law_names" "_law_names" (defArgs s__law_names) (defBody s__law_names) (defScope s__law_names) .none kV23 dc23 pm23 an23 (.ref g23) ct23, PySem.W.fnOf "_law_domain" "_law_domain" (defArgs s__law_domain) (defBody s__law_domain) (defScope s__law_domain) .none kV24 dc24 pm24 an24 (.ref g24) ct24, PySem.W.fnOf "_law_unknowns" "_law_unknowns" (defArgs s__law_unknowns) (defBody s__law_unknowns) (defScope s__law_unknowns) .none kV25 dc25 pm25 an25 (.ref g25) ct25, PySem.W.fnOf "_law_taken" "_law_taken" (defArgs s__law_taken) (defBody s__law_taken) (defScope s__law_taken) .none kV26 dc26 pm26 an26 (.ref g26) ct26, PySem.W.fnOf "_law_value" "_law_value" (defArgs s__law_value) (defBody s__law_value) (defScope s__law_value) .none kV27 dc27 pm27 an27 (.ref g27) ct27, PySem.W.fnOf "_law_model" "_law_model" (defArgs s__law_model) (defBody s__law_model) (defScope s__law_model) .none kV28 dc28 pm28 an28 (.ref g28) ct28, PySem.W.fnOf "_law_norm" "_law_norm" (defArgs s__law_norm) (defBody s__law_norm) (defScope s__law_norm) .none kV29 dc29 pm29 an29 (.ref g29) ct29, PySem.W.fnOf "_law_at_most" "_law_at_most" (defArgs s__law_at_most) (defBody s__law_at_most) (defScope s__law_at_most) .none kV30 dc30 pm30 an30 (.ref g30) ct30, PySem.W.fnOf "_law_at_least" "_law_at_least" (defArgs s__law_at_least) (defBody s__law_at_least) (defScope s__law_at_least) .none kV31 dc31 pm31 an31 (.ref g31) ct31, PySem.W.fnOf "_law_from" "_law_from" (defArgs s__law_from) (defBody s__law_from) (defScope s__law_from) .none kV32 dc32 pm32 an32 (.ref g32) ct32, PySem.W.fnOf "_law_sum_row" "_law_sum_row" (defArgs s__law_sum_row) (defBody s__law_sum_row) (defScope s__law_sum_row) .none kV33 dc33 pm33 an33 (.ref g33) ct33, PySem.W.fnOf "_law_unlike_rows" "_law_unlike_rows" (defArgs s__law_unlike_rows) (defBody s__law_unlike_rows) (defScope s__law_unlike_rows) .none kV34 dc34 pm34 an34 (.ref g34) ct34, PySem.W.fnOf "_law_counts_rows" "_law_counts_rows" (defArgs s__law_counts_rows) (defBody s__law_counts_rows) (defScope s__law_counts_rows) .none kV35 dc35 pm35 an35 (.ref g35) ct35, PySem.W.fnOf "_law_works_rows" "_law_works_rows" (defArgs s__law_works_rows) (defBody s__law_works_rows) (defScope s__law_works_rows) .none kV36 dc36 pm36 an36 (.ref g36) ct36, PySem.W.fnOf "_law_further" "_law_further" (defArgs s__law_further) (defBody s__law_further) (defScope s__law_further) .none kV37 dc37 pm37 an37 (.ref g37) ct37, PySem.W.fnOf "_law_sums" "_law_sums" (defArgs s__law_sums) (defBody s__law_sums) (defScope s__law_sums) .none kV38 dc38 pm38 an38 (.ref g38) ct38, PySem.W.fnOf "_law_due" "_law_due" (defArgs s__law_due) (defBody s__law_due) (defScope s__law_due) .none kV39 dc39 pm39 an39 (.ref g39) ct39, PySem.W.fnOf "law" "law" (defArgs s_law) (defBody s_law) (defScope s_law) .none kV40 dc40 pm40 an40 (.ref g40) ct40⟩
  have T : ∀ base : Heap, (∀ p ∈ ([] : List (Addr × Addr)), TabB base mg p.1 p.2) → Txt w K mg base A D := fun base TB =>
    ⟨⟨⟨_, _, _, _, _, _, _, _, rfl, l0, c0⟩⟩, k0, (F0.binds (ps := P_domains_of) fun _ _ _ _ _ _ us hl => match us, hl with | [_], _ => rfl), PySem.W.mg_of X G a0,
    ⟨⟨_, _, _, _, _, _, _, _, rfl, l1, c1⟩⟩, k1, (F1.binds (ps := P_said_in) fun _ _ _ _ _ _ us hl => match us, hl with | [_], _ => rfl), PySem.W.mg_of X G a1,
    ⟨⟨_, _, _, _, _, _, _, _, rfl, l2, c2⟩⟩, k2, (F2.binds (ps := P_prices_of) fun _ _ _ _ _ _ us hl => match us, hl with | [_], _ => rfl), PySem.W.mg_of X G a2,
    ⟨⟨_, _, _, _, _, _, _, _, rfl, l3, c3⟩⟩, k3, (F3.binds (ps := P_norm) fun _ _ _ _ _ _ us hl => match us, hl with | [_, _], _ => rfl), PySem.W.mg_of X G a3,
    ⟨⟨_, _, _, _, _, _, _, _, rfl, l4, c4⟩⟩, k4, (F4.binds (ps := P_upward) fun _ _ _ _ _ _ us hl => match us, hl with | [_, _, _], _ => rfl), PySem.W.mg_of X G a4,
    ⟨⟨_, _, _, _, _, _, _, _, rfl, l5, c5⟩⟩, k5, (F5.binds (ps := P_at_most) fun _ _ _ _ _ _ us hl => match us, hl with | [_, _], _ => rfl), PySem.W.mg_of X G a5,
    ⟨⟨_, _, _, _, _, _, _, _, rfl, l6, c6⟩⟩, k6, (F6.binds (ps := P_at_least) fun _ _ _ _ _ _ us hl => match us, hl with | [_, _], _ => rfl), PySem.W.mg_of X G a6,
    ⟨⟨_, _, _, _, _, _, _, _, rfl, l7, c7⟩⟩, k7, (F7.binds (ps := P_value_pairs) fun _ _ _ _ _ _ us hl => match us, hl with | [_, _, _], _ => rfl), PySem.W.mg_of X G a7,
    ⟨⟨_, _, _, _, _, _, _, _, rfl, l8, c8⟩⟩, k8, (F8.binds (ps := P_upward_pairs) fun _ _ _ _ _ _ us hl => match us, hl with | [_, _, _, _], _ => rfl), PySem.W.mg_of X G a8,
    ⟨⟨_, _, _, _, _, _, _, _, rfl, l9, c9⟩⟩, k9, (F9.binds (ps := P_sum_row) fun _ _ _ _ _ _ us hl => match us, hl with | [_, _, _], _ => rfl), PySem.W.mg_of X G a9,
    ⟨⟨_, _, _, _, _, _, _, _, rfl, l10, c10⟩⟩, k10, (F10.binds (ps := P_with_part) fun _ _ _ _ _ _ us hl => match us, hl with | [_, _], _ => rfl), PySem.W.mg_of X G a10,
    ⟨⟨_, _, _, _, _, _, _, _, rfl, l11, c11⟩⟩, k11, (F11.binds (ps := P_values_of) fun _ _ _ _ _ _ us hl => match us, hl with | [_, _], _ => rfl), PySem.W.mg_of X G a11,
    ⟨⟨_, _, _, _, _, _, _, _, rfl, l12, c12⟩⟩, k12, (F12.binds (ps := P_having) fun _ _ _ _ _ _ us hl => match us, hl with | [_, _, _], _ => rfl), PySem.W.mg_of X G a12,
    ⟨⟨_, _, _, _, _, _, _, _, rfl, l13, c13⟩⟩, k13, (F13.binds (ps := P_tell_least) fun _ _ _ _ _ _ us hl => match us, hl with | [_, _, _], _ => rfl), PySem.W.mg_of X G a13,
    ⟨⟨_, _, _, _, _, _, _, _, rfl, l14, c14⟩⟩, k14, (F14.binds (ps := P_tell_same) fun _ _ _ _ _ _ us hl => match us, hl with | [_, _, _], _ => rfl), PySem.W.mg_of X G a14,
    ⟨⟨_, _, _, _, _, _, _, _, rfl, l15, c15⟩⟩, k15, (F15.binds (ps := P_tell_unlike) fun _ _ _ _ _ _ us hl => match us, hl with | [_, _, _], _ => rfl), PySem.W.mg_of X G a15,
    ⟨⟨_, _, _, _, _, _, _, _, rfl, l16, c16⟩⟩, k16, (F16.binds (ps := P_tell_counts) fun _ _ _ _ _ _ us hl => match us, hl with | [_, _, _], _ => rfl), PySem.W.mg_of X G a16,
    ⟨⟨_, _, _, _, _, _, _, _, rfl, l17, c17⟩⟩, k17, (F17.binds (ps := P_tell_works) fun _ _ _ _ _ _ us hl => match us, hl with | [_, _, _], _ => rfl), PySem.W.mg_of X G a17,
    ⟨⟨_, _, _, _, _, _, _, _, rfl, l18, c18⟩⟩, k18, (F18.binds (ps := P_telling_rows_of) fun _ _ _ _ _ _ us hl => match us, hl with | [_, _, _], _ => rfl), PySem.W.mg_of X G a18,
    ⟨⟨_, _, _, _, _, _, _, _, rfl, l19, c19⟩⟩, k19, (F19.binds (ps := P_telling_rows) fun _ _ _ _ _ _ us hl => match us, hl with | [_, _], _ => rfl), PySem.W.mg_of X G a19,
    ⟨⟨_, _, _, _, _, _, _, _, rfl, l20, c20⟩⟩, k20, (F20.binds (ps := P__law_pool) fun _ _ _ _ _ _ us hl => match us, hl with | [_], _ => rfl), PySem.W.mg_of X G a20,
    ⟨⟨_, _, _, _, _, _, _, _, rfl, l21, c21⟩⟩, k21, (F21.binds (ps := P__law_draw) fun _ _ _ _ _ _ us hl => match us, hl with | [_, _], _ => rfl), PySem.W.mg_of X G a21,
    ⟨⟨_, _, _, _, _, _, _, _, rfl, l22, c22⟩⟩, k22, (F22.binds (ps := P__law_so) fun _ _ _ _ _ _ us hl => match us, hl with | [_, _], _ => rfl), PySem.W.mg_of X G a22,
    ⟨⟨_, _, _, _, _, _, _, _, rfl, l23, c23⟩⟩, k23, (F23.binds (ps := P__law_names) fun _ _ _ _ _ _ us hl => match us, hl with | [_], _ => rfl), PySem.W.mg_of X G a23,
    ⟨⟨_, _, _, _, _, _, _, _, rfl, l24, c24⟩⟩, k24, (F24.binds (ps := P__law_domain) fun _ _ _ _ _ _ us hl => match us, hl with | [_, _], _ => rfl), PySem.W.mg_of X G a24,
    ⟨⟨_, _, _, _, _, _, _, _, rfl, l25, c25⟩⟩, k25, (F25.binds (ps := P__law_unknowns) fun _ _ _ _ _ _ us hl => match us, hl with | [_, _, _, _], _ => rfl), PySem.W.mg_of X G a25,
    ⟨⟨_, _, _, _, _, _, _, _, rfl, l26, c26⟩⟩, k26, (F26.binds (ps := P__law_taken) fun _ _ _ _ _ _ us hl => match us, hl with | [_, _, _], _ => rfl), PySem.W.mg_of X G a26,
    ⟨⟨_, _, _, _, _, _, _, _, rfl, l27, c27⟩⟩, k27, (F27.binds (ps := P__law_value) fun _ _ _ _ _ _ us hl => match us, hl with | [_, _], _ => rfl), PySem.W.mg_of X G a27,
    ⟨⟨_, _, _, _, _, _, _, _, rfl, l28, c28⟩⟩, k28, (F28.binds (ps := P__law_model) fun _ _ _ _ _ _ us hl => match us, hl with | [_, _, _, _, _, _], _ => rfl), PySem.W.mg_of X G a28,
    ⟨⟨_, _, _, _, _, _, _, _, rfl, l29, c29⟩⟩, k29, (F29.binds (ps := P__law_norm) fun _ _ _ _ _ _ us hl => match us, hl with | [_, _], _ => rfl), PySem.W.mg_of X G a29,
    ⟨⟨_, _, _, _, _, _, _, _, rfl, l30, c30⟩⟩, k30, (F30.binds (ps := P__law_at_most) fun _ _ _ _ _ _ us hl => match us, hl with | [_, _], _ => rfl), PySem.W.mg_of X G a30,
    ⟨⟨_, _, _, _, _, _, _, _, rfl, l31, c31⟩⟩, k31, (F31.binds (ps := P__law_at_least) fun _ _ _ _ _ _ us hl => match us, hl with | [_, _], _ => rfl), PySem.W.mg_of X G a31,
    ⟨⟨_, _, _, _, _, _, _, _, rfl, l32, c32⟩⟩, k32, (F32.binds (ps := P__law_from) fun _ _ _ _ _ _ us hl => match us, hl with | [_, _, _], _ => rfl), PySem.W.mg_of X G a32,
    ⟨⟨_, _, _, _, _, _, _, _, rfl, l33, c33⟩⟩, k33, (F33.binds (ps := P__law_sum_row) fun _ _ _ _ _ _ us hl => match us, hl with | [_, _, _], _ => rfl), PySem.W.mg_of X G a33,
    ⟨⟨_, _, _, _, _, _, _, _, rfl, l34, c34⟩⟩, k34, (F34.binds (ps := P__law_unlike_rows) fun _ _ _ _ _ _ us hl => match us, hl with | [_, _], _ => rfl), PySem.W.mg_of X G a34,
    ⟨⟨_, _, _, _, _, _, _, _, rfl, l35, c35⟩⟩, k35, (F35.binds (ps := P__law_counts_rows) fun _ _ _ _ _ _ us hl => match us, hl with | [_, _, _], _ => rfl), PySem.W.mg_of X G a35,
    ⟨⟨_, _, _, _, _, _, _, _, rfl, l36, c36⟩⟩, k36, (F36.binds (ps := P__law_works_rows) fun _ _ _ _ _ _ us hl => match us, hl with | [_, _], _ => rfl), PySem.W.mg_of X G a36,
    ⟨⟨_, _, _, _, _, _, _, _, rfl, l37, c37⟩⟩, k37, (F37.binds (ps := P__law_further) fun _ _ _ _ _ _ us hl => match us, hl with | [_, _], _ => rfl), PySem.W.mg_of X G a37,
    ⟨⟨_, _, _, _, _, _, _, _, rfl, l38, c38⟩⟩, k38, (F38.binds (ps := P__law_sums) fun _ _ _ _ _ _ us hl => match us, hl with | [_, _, _, _], _ => rfl), PySem.W.mg_of X G a38,
    ⟨⟨_, _, _, _, _, _, _, _, rfl, l39, c39⟩⟩, k39, (F39.binds (ps := P__law_due) fun _ _ _ _ _ _ us hl => match us, hl with | [_, _, _, _], _ => rfl), PySem.W.mg_of X G a39,
    ⟨⟨_, _, _, _, _, _, _, _, rfl, l40, c40⟩⟩, k40, (F40.binds (ps := P_law) fun _ _ _ _ _ _ us hl => match us, hl with | [_], _ => rfl), PySem.W.mg_of X G a40,
    PySem.W.mg_none_of X G z0,
    PySem.W.mg_none_of X G z1,
    PySem.W.mg_none_of X G z2,
    PySem.W.mg_none_of X G z3,
    PySem.W.mg_none_of X G z4,
    PySem.W.mg_none_of X G z5,
    PySem.W.mg_none_of X G z6,
    PySem.W.mg_none_of X G z7,
    PySem.W.mg_none_of X G z8,
    PySem.W.mg_none_of X G z9,
    PySem.W.mg_none_of X G z10,
    PySem.W.mg_none_of X G z11,
    PySem.W.mg_none_of X G z12,
    PySem.W.mg_none_of X G z13,
    PySem.W.mg_none_of X G z14,
    PySem.W.mg_none_of X G z15,
    PySem.W.mg_of X G da0,
    ⟨_, _, _, dl0, dk0, de0_0, rfl⟩,
    ⟨_, _, _, dl0, dk0, de0_1, rfl⟩,
    ⟨_, _, _, dl0, dk0, de0_2, rfl⟩,
    ⟨_, _, _, dl0, dk0, de0_3, rfl⟩,
    ⟨_, _, _, dl0, dk0, de0_4, rfl⟩,
    ⟨fun s us ws _ hl => kb_to_telling_rows_s_model s us ws hl, fun r q => kb_rel_telling_rows_s_model r q⟩⟩
  have tbs : ∀ p ∈ ([] : List (Addr × Addr)), (PySem.W.CodeHd h p.1 p.2 ∧ h.get? p.2 = some { cls := .none, data := .fields #[] }) ∧ K.lookup p.2 = none := fun p hp => by
    simp only [List.mem_cons, List.not_mem_nil, or_false] at hp
  refine ⟨D.d_law, [], spD ⟨K, w⟩ A.tabs [] 1 f_law, fun p hp => (tbs p hp).1.2, fun p hp => (tbs p hp).2, fun p hp => (tbs p hp).1.1, fun s v => .of_eq rfl, fun H a ns hl _ hH hS => law_sp law_all H a ns hl (fun P hP => ?_) hS, fun base _ _ TB => ok_law (T base fun p hp => ⟨(TB p hp).code, (TB p hp).bm, (TB p hp).gP⟩)⟩
  have hP : P ∈ ([] : List Addr) := hP
  simp only [List.mem_cons, List.not_mem_nil, or_false] at hP
end K17W
open PySem PySem.W PyProof.Rows
set_option maxRecDepth 100000 in
set_option maxHeartbeats 0 in
theorem PySem.Challenge.cw_aswritten_k17_telling_rows_of_sums_holds : PySem.Challenge.rw_aswritten_k17_telling_rows_of_sums.Holds := by
  w_on; o_law; k_head; (case hw => w_witness2)
  k_fill
  refine PD.walk_ofTabs (l := PySem.Challenge.rw_aswritten_k17_telling_rows_of_sums) (n := 63) (k := 10) (x := "script") (CX := fun _ => L2.CX0) rfl (by decide) rfl ⟨rfl, by decide, by decide⟩ (fun w h Y => by first | exact PySem.W.kIn_of Y | exact PySem.W.km_in_of Y) ?F (fun _ _ _ _ _ h => h)
  case F =>
    intro w mg fa h KX G hmg tb
    refine' K17W.all_mk KX G hmg tb ?a0 ?l0 ?c0 ?k0 ?a1 ?l1 ?c1 ?k1 ?a2 ?l2 ?c2 ?k2 ?a3 ?l3 ?c3 ?k3 ?a4 ?l4 ?c4 ?k4 ?a5 ?l5 ?c5 ?k5 ?a6 ?l6 ?c6 ?k6 ?a7 ?l7 ?c7 ?k7 ?a8 ?l8 ?c8 ?k8 ?a9 ?l9 ?c9 ?k9 ?a10 ?l10 ?c10 ?k10 ?a11 ?l11 ?c11 ?k11 ?a12 ?l12 ?c12 ?k12 ?a13 ?l13 ?c13 ?k13 ?a14 ?l14 ?c14 ?k14 ?a15 ?l15 ?c15 ?k15 ?a16 ?l16 ?c16 ?k16 ?a17 ?l17 ?c17 ?k17 ?a18 ?l18 ?c18 ?k18 ?a19 ?l19 ?c19 ?k19 ?a20 ?l20 ?c20 ?k20 ?a21 ?l21 ?c21 ?k21 ?a22 ?l22 ?c22 ?k22 ?a23 ?l23 ?c23 ?k23 ?a24 ?l24 ?c24 ?k24 ?a25 ?l25 ?c25 ?k25 ?a26 ?l26 ?c26 ?k26 ?a27 ?l27 ?c27 ?k27 ?a28 ?l28 ?c28 ?k28 ?a29 ?l29 ?c29 ?k29 ?a30 ?l30 ?c30 ?k30 ?a31 ?l31 ?c31 ?k31 ?a32 ?l32 ?c32 ?k32 ?a33 ?l33 ?c33 ?k33 ?a34 ?l34 ?c34 ?k34 ?a35 ?l35 ?c35 ?k35 ?a36 ?l36 ?c36 ?k36 ?a37 ?l37 ?c37 ?k37 ?a38 ?l38 ?c38 ?k38 ?a39 ?l39 ?c39 ?k39 ?a40 ?l40 ?c40 ?k40 ?z0 ?z1 ?z2 ?z3 ?z4 ?z5 ?z6 ?z7 ?z8 ?z9 ?z10 ?z11 ?z12 ?z13 ?z14 ?z15 ?da0 ?dl0 ?dk0 ?de0_0 ?de0_1 ?de0_2 ?de0_3 ?de0_4
    (case a0 => k_is); (case l0 => k_is); (case c0 => k_is); (case k0 => k_is)
    (case a1 => k_is); (case l1 => k_is); (case c1 => k_is); (case k1 => k_is)
    (case a2 => k_is); (case l2 => k_is); (case c2 => k_is); (case k2 => k_is)
    (case a3 => k_is); (case l3 => k_is); (case c3 => k_is); (case k3 => k_is)
    (case a4 => k_is); (case l4 => k_is); (case c4 => k_is); (case k4 => k_is)
    (case a5 => k_is); (case l5 => k_is); (case c5 => k_is); (case k5 => k_is)
    (case a6 => k_is); (case l6 => k_is); (case c6 => k_is); (case k6 => k_is)
    (case a7 => k_is); (case l7 => k_is); (case c7 => k_is); (case k7 => k_is)
    (case a8 => k_is); (case l8 => k_is); (case c8 => k_is); (case k8 => k_is)
    (case a9 => k_is); (case l9 => k_is); (case c9 => k_is); (case k9 => k_is)
    (case a10 => k_is); (case l10 => k_is); (case c10 => k_is); (case k10 => k_is)
    (case a11 => k_is); (case l11 => k_is); (case c11 => k_is); (case k11 => k_is)
    (case a12 => k_is); (case l12 => k_is); (case c12 => k_is); (case k12 => k_is)
    (case a13 => k_is); (case l13 => k_is); (case c13 => k_is); (case k13 => k_is)
    (case a14 => k_is); (case l14 => k_is); (case c14 => k_is); (case k14 => k_is)
    (case a15 => k_is); (case l15 => k_is); (case c15 => k_is); (case k15 => k_is)
    (case a16 => k_is); (case l16 => k_is); (case c16 => k_is); (case k16 => k_is)
    (case a17 => k_is); (case l17 => k_is); (case c17 => k_is); (case k17 => k_is)
    (case a18 => k_is); (case l18 => k_is); (case c18 => k_is); (case k18 => k_is)
    (case a19 => k_is); (case l19 => k_is); (case c19 => k_is); (case k19 => k_is)
    (case a20 => k_is); (case l20 => k_is); (case c20 => k_is); (case k20 => k_is)
    (case a21 => k_is); (case l21 => k_is); (case c21 => k_is); (case k21 => k_is)
    (case a22 => k_is); (case l22 => k_is); (case c22 => k_is); (case k22 => k_is)
    (case a23 => k_is); (case l23 => k_is); (case c23 => k_is); (case k23 => k_is)
    (case a24 => k_is); (case l24 => k_is); (case c24 => k_is); (case k24 => k_is)
    (case a25 => k_is); (case l25 => k_is); (case c25 => k_is); (case k25 => k_is)
    (case a26 => k_is); (case l26 => k_is); (case c26 => k_is); (case k26 => k_is)
    (case a27 => k_is); (case l27 => k_is); (case c27 => k_is); (case k27 => k_is)
    (case a28 => k_is); (case l28 => k_is); (case c28 => k_is); (case k28 => k_is)
    (case a29 => k_is); (case l29 => k_is); (case c29 => k_is); (case k29 => k_is)
    (case a30 => k_is); (case l30 => k_is); (case c30 => k_is); (case k30 => k_is)
    (case a31 => k_is); (case l31 => k_is); (case c31 => k_is); (case k31 => k_is)
    (case a32 => k_is); (case l32 => k_is); (case c32 => k_is); (case k32 => k_is)
    (case a33 => k_is); (case l33 => k_is); (case c33 => k_is); (case k33 => k_is)
    (case a34 => k_is); (case l34 => k_is); (case c34 => k_is); (case k34 => k_is)
    (case a35 => k_is); (case l35 => k_is); (case c35 => k_is); (case k35 => k_is)
    (case a36 => k_is); (case l36 => k_is); (case c36 => k_is); (case k36 => k_is)
    (case a37 => k_is); (case l37 => k_is); (case c37 => k_is); (case k37 => k_is)
    (case a38 => k_is); (case l38 => k_is); (case c38 => k_is); (case k38 => k_is)
    (case a39 => k_is); (case l39 => k_is); (case c39 => k_is); (case k39 => k_is)
    (case a40 => k_is); (case l40 => k_is); (case c40 => k_is); (case k40 => k_is)
    (case z0 => k_is)
    (case z1 => k_is)
    (case z2 => k_is)
    (case z3 => k_is)
    (case z4 => k_is)
    (case z5 => k_is)
    (case z6 => k_is)
    (case z7 => k_is)
    (case z8 => k_is)
    (case z9 => k_is)
    (case z10 => k_is)
    (case z11 => k_is)
    (case z12 => k_is)
    (case z13 => k_is)
    (case z14 => k_is)
    (case z15 => k_is)
    (case da0 => k_is); (case dl0 => k_is); (case dk0 => k_keys)
    (case de0_0 => k_is)
    (case de0_1 => k_is)
    (case de0_2 => k_is)
    (case de0_3 => k_is)
    (case de0_4 => k_is)
