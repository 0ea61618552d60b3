import PyProof.Rows.All
import Wide.All
import OpenK.AllK
import Wide.FinOn
import HandS.ForMost
import HandS.Flow
import HandS.IsInst
import HandS.Wide
import HandS.FStr
import HandS.Style
import HandS.Small
import HandS.Defaults
import HandS.Evl
import HandS.Lambda
import HandS.Walk
import HandS.ForExc
import HandS.ExcInit
import HandS.ExcCtx
import HandS.HotCalls
import KE.KExcSuper
import KE.KTryMore
import KE.RegKSuper
import KE.KNestM
import HandS.EndOwn
import HandS.Nested
import KE.KDflt
import HandS.Iter
import KE.GoesMore
import KE.KRevSl
import HandS.Text
import HandS.Codes
import HandS.StrMore
import HandS.More
import HandS.SortKw
import KE.DatumOrd
import HandS.Star
import PySem.Challenge.RW_hemprice_k04_powers_and_commutators
set_option Elab.async false
set_option linter.all false
set_option maxRecDepth 100000
set_option maxHeartbeats 4000000
namespace G
open PySem L2
abbrev Fr := PySem.W.Frag
/-! data: what stands in the part of the heap that is never written again -/
theorem seqT {K : Fr} {H H' : Hp} {a : Addr} {xs : List V} (e : Same H H') (h : SqT K H a xs) : SqT K H' a xs := by
  rcases h with (h | ⟨o, h⟩) | h
  · exact .inl (.inl (e _ _ h))
  · exact .inl (.inr ⟨o, e _ _ h⟩)
  · exact .inr h
mutual
theorem dpMono {K : Fr} {I J : Hp} (e : Same I J) : ∀ (d : PyData) (v : V), Dp K I v d → Dp K J v d
  | .none, _, h => by cases h; exact .non
  | .bool _, _, h => by cases h; exact .bl _
  | .int _, _, h => by cases h; exact .int _
  | .str _, _, h => by cases h; exact .str _
  | .list ds, _, h => by
    cases h with
    | lst hs ha => exact .lst (e.seq hs) (dpMonoAll e ds _ ha)
  | .tuple ds, _, h => by
    cases h with
    | tup hs ha => exact .tup (seqT e hs) (dpMonoAll e ds _ ha)
  | .dict _, _, h => by cases h
theorem dpMonoAll {K : Fr} {I J : Hp} (e : Same I J) : ∀ (ds : List PyData) (vs : List V), DpAll K I vs ds → DpAll K J vs ds
  | [], _, h => by cases h; exact .nil
  | d :: ds, _, h => by
    cases h with
    | cons h1 h2 => exact .cons (dpMono e d _ h1) (dpMonoAll e ds _ h2)
end
theorem dpm {K : Fr} {I J : Hp} {d : PyData} {v : V} (h : Dp K I v d) (e : Same I J) : Dp K J v d := dpMono e d v h
theorem dpmA {K : Fr} {I J : Hp} {ds : List PyData} {vs : List V} (h : DpAll K I vs ds) (e : Same I J) : DpAll K J vs ds := dpMonoAll e ds vs h
theorem dpLen {K : Fr} {I : Hp} : ∀ {vs : List V} {ds : List PyData}, DpAll K I vs ds → vs.length = ds.length
  | _, _, .nil => rfl
  | _, _, .cons _ t => congrArg Nat.succ (dpLen t)
theorem dpGet {K : Fr} {I : Hp} : ∀ {vs : List V} {ds : List PyData}, DpAll K I vs ds → ∀ {i : Nat} {d : PyData}, ds[i]? = some d → ∃ v, vs[i]? = some v ∧ Dp K I v d
  | _, _, .nil, i, d, h => by simp at h
  | _, _, .cons r t, 0, d, h => by simp at h; subst h; exact ⟨_, rfl, r⟩
  | _, _, .cons r t, i + 1, d, h => by
    obtain ⟨v, h1, h2⟩ := dpGet t (i := i) (d := d) (by simpa using h)
    exact ⟨v, by simpa using h1, h2⟩
theorem dpGetV {K : Fr} {I : Hp} : ∀ {vs : List V} {ds : List PyData}, DpAll K I vs ds → ∀ {i : Nat} {v : V}, vs[i]? = some v → ∃ d, ds[i]? = some d ∧ Dp K I v d
  | _, _, .nil, i, d, h => by simp at h
  | _, _, .cons r t, 0, d, h => by simp at h; subst h; exact ⟨_, rfl, r⟩
  | _, _, .cons r t, i + 1, d, h => by
    obtain ⟨v, h1, h2⟩ := dpGetV t (i := i) (v := d) (by simpa using h)
    exact ⟨v, by simpa using h1, h2⟩
theorem dpAppend {K : Fr} {I : Hp} : ∀ {vs ws : List V} {ds es : List PyData}, DpAll K I vs ds → DpAll K I ws es → DpAll K I (vs ++ ws) (ds ++ es)
  | _, _, _, _, .nil, h => h
  | _, _, _, _, .cons r t, h => .cons r (dpAppend t h)
/-! growth: I the part that stands still, H the whole -/
structure Gr (I H I' H' : Hp) : Prop where
  im : Same I I'
  ok : Same I' H'
  fr : ∀ a, I a = none → H a ≠ none → I' a = none
theorem Gr.refl {I H : Hp} (h : Same I H) : Gr I H I H := ⟨fun _ _ e => e, h, fun _ e _ => e⟩
/-- nothing written: what stood stands -/
structure Pu (I H I' H' : Hp) : Prop extends Gr I H I' H' where
  sm : Same H H'
theorem Pu.refl {I H : Hp} (h : Same I H) : Pu I H I H := ⟨Gr.refl h, fun _ _ e => e⟩
theorem Pu.trans {I H I1 H1 I2 H2 : Hp} (a : Pu I H I1 H1) (b : Pu I1 H1 I2 H2) : Pu I H I2 H2 :=
  ⟨⟨fun x o e => b.im x o (a.im x o e), b.ok, fun x e n => b.fr x (a.fr x e n) fun z => by
    cases q : H x with
    | none => exact n q
    | some o => rw [a.sm x o q] at z; cases z⟩, fun x o e => b.sm x o (a.sm x o e)⟩
theorem sameUpd {I H : Hp} {p : Addr} {o : HO} (h : Same I H) (hp : H p = none) : Same I (upd I p o) := fun a u e => by
  rw [upd_ne (ne_of_none (h a u e) hp)]; exact e
theorem sameNew {H : Hp} {p : Addr} {o : HO} (hp : H p = none) : Same H (upd H p o) := fun a u e => by
  rw [upd_ne (ne_of_none e hp)]; exact e
theorem sameBoth {I H : Hp} {p : Addr} {o : HO} (h : Same I H) : Same (upd I p o) (upd H p o) := fun a u e => by
  by_cases q : a = p
  · subst q; rw [upd_same] at e ⊢; exact e
  · rw [upd_ne q] at e ⊢; exact h a u e
/-- a new thing that stands still from now on -/
theorem Pu.new {I H : Hp} {p : Addr} {o : HO} (h : Same I H) (hp : H p = none) : Pu I H (upd I p o) (upd H p o) :=
  ⟨⟨sameUpd h hp, sameBoth h, fun a e n => by
    by_cases q : a = p
    · subst q; exact absurd hp n
    · rw [upd_ne q]; exact e⟩, sameNew hp⟩
/-- a new thing that may be written -/
theorem Pu.newM {I H : Hp} {p : Addr} {o : HO} (h : Same I H) (hp : H p = none) : Pu I H I (upd H p o) :=
  ⟨⟨fun _ _ e => e, fun a u e => sameNew hp a u (h a u e), fun _ e _ => e⟩, sameNew hp⟩
theorem dpNewT {K : Fr} {I : Hp} {p : Addr} {vs : List V} {ds : List PyData} (h : DpAll K (upd I p (.tup vs)) vs ds) : Dp K (upd I p (.tup vs)) (.ref p) (.tuple ds) := .tup (SqT.of upd_same) h
theorem dpNewL {K : Fr} {I : Hp} {p : Addr} {vs : List V} {ds : List PyData} (h : DpAll K (upd I p (.lst vs)) vs ds) : Dp K (upd I p (.lst vs)) (.ref p) (.list ds) := .lst (SqL.of upd_same) h
theorem absI (n : Int) : (if n < 0 then -n else n) = (n.natAbs : Int) := by split <;> omega
theorem list2 {α : Type} {l : List α} (h : l.length = 2) : ∃ a b, l = [a, b] := by
  match l, h with
  | [a, b], _ => exact ⟨a, b, rfl⟩
theorem dpA2 {K : Fr} {I : Hp} {xs : List V} {d1 d2 : PyData} (h : DpAll K I xs [d1, d2]) : ∃ v1 v2, xs = [v1, v2] ∧ Dp K I v1 d1 ∧ Dp K I v2 d2 := by
  cases h with
  | cons h1 h2 =>
    cases h2 with
    | cons h2 h3 =>
      cases h3
      exact ⟨_, _, rfl, h1, h2⟩
theorem strLenApp (a b : Str) : (a ++ b).length = a.length + b.length := by
  show (a.cps ++ b.cps).size = a.cps.size + b.cps.size
  exact Array.size_append
theorem strEmptyApp (a : Str) : Str.empty ++ a = a := by
  show (⟨Str.empty.cps ++ a.cps⟩ : Str) = a
  cases a
  simp [Str.empty]
theorem intLen {i : Int} (h : i.natAbs.log2 < 1920) : (Str.ofString (toString i)).length ≤ 1921 := PyProof.Rows.int_text_len_1921 h
theorem cmulc {i j : Int} (h : -(2 ^ 64) < j) (h2 : j < 2 ^ 64) : CMul i j := .inr ⟨h, h2⟩
theorem cmulc' {i j : Int} (h : -(2 ^ 64) < i) (h2 : i < 2 ^ 64) : CMul i j := .inl ⟨h, h2⟩
theorem lg_lt {n : Int} {k : Nat} (h : n.natAbs < 2 ^ k) (hk : 0 < k) : n.natAbs.log2 < k := PySem.Flt.log2_lt_of hk h
theorem lg9 {n : Int} (h : n.natAbs < 2 ^ 100) : n.natAbs.log2 < 9000 := Nat.lt_trans (lg_lt h (by decide)) (by decide)
def rLenV (K : Fr) : List V → Hp → VK → Prop := fun xs H Q => ∃ x n, xs = [x] ∧ LenV K x H n ∧ Q (.int (n : Nat)) H
def rLenQ (K : Fr) : List V → Hp → VK → Prop := fun xs H Q => ∃ p ys, xs = [.ref p] ∧ (SqL K H p ys ∨ SqT K H p ys) ∧ Q (.int ((ys.length : Nat) : Int)) H
/-! a called def -/
structure Cal (P : Program) (w : World) (K : Fr) (mg : Str → Option Value) (base : Heap) (CX : CXT) (k : Nat) (x : Str) (f : Addr) (fd : FuncData) (ps : List Str) (sp : Sp) : Prop where
  ok : FnOk P w K mg base CX k f fd ps sp
  g : mg x = some (.ref f)
  kp : PySem.W.keepIn K (.ref f) = true
  b : Binds K fd ps []
section
variable {X : Cx} {x : Str} {p pos : Pos} {e : Expr} {es : List Expr} {t : TA} {k : Nat} {f : Addr} {fd : FuncData} {ps : List Str} {sp : Sp}
theorem pe_cal (C : Cal X.prog X.w X.K X.mg X.base CX0 k x f fd ps sp) (hr : Room k X.A) (ha : PA X (e :: es) t) (hg : Gl X x := by rfl) (hdb : (x == ("__debug__" : Str)) = false := by decide)
    (he : starEach (e :: es) X.env = (false, eval e X.env) :: starEach es X.env := by rfl) (hpl : (backTo pos (starEach es X.env)).any (·.1) = false := by rfl) :
    PE X (.Call (.Name x p) (e :: es) [] pos) (tCall sp [] E0 t) := pe_call C.ok hr hg C.g C.kp C.b .nil pass0 ha hdb he hpl
end
/-- a def with defaults, called with fewer values, or by keywords -/
structure CalD (P : Program) (w : World) (K : Fr) (mg : Str → Option Value) (base : Heap) (CX : CXT) (k : Nat) (x : Str) (f : Addr) (fd : FuncData) (ps : List Str) (sp : Sp) (dvs : List V) : Prop where
  ok : FnOk P w K mg base CX k f fd ps sp
  g : mg x = some (.ref f)
  kp : PySem.W.keepIn K (.ref f) = true
  b : ∃ ds, Vals dvs ds ∧ Binds K fd ps ds
structure CalK (P : Program) (w : World) (K : Fr) (mg : Str → Option Value) (base : Heap) (CX : CXT) (k : Nat) (x : Str) (f : Addr) (fd : FuncData) (ps : List Str) (sp : Sp) (n : Nat) (ks : List Str) (gV : List V → List V → List V) : Prop where
  ok : FnOk P w K mg base CX k f fd ps sp
  g : mg x = some (.ref f)
  kp : PySem.W.keepIn K (.ref f) = true
  b : ∃ g, KBn K fd ps n ks g gV
theorem kbinds1 {K : Fr} {x qual : Str} {params : Arguments} {body : List Stmt} {scope : Scope} {dvs : List V} {f : Addr} {fd : FuncData} {ps : List Str} (F : FunD K x qual params body scope dvs [] f fd) (n : Nat) (ks : List Str) (g : {α : Type} → List α → List α → List α → List α) (hd : dvs ≠ [])
    (hrel : ∀ {vs ds zs : List V} {us its ws : List Value}, Vals vs us → Vals ds its → Vals zs ws → Vals (g vs ds zs) (g us its ws))
    (h : ∀ (T : Addr) (kV doc pm : Value) (an : Option Addr) (cdv ct : Value) (us its ws : List Value), us.length = n → its.length = dvs.length → ws.length = ks.length →
      ∃ k, bindArgs (PySem.W.fnOf x qual params body scope (.ref T) kV doc pm an cdv ct) ⟨us, ks.zip ws⟩ = seqItems? (.ref T) >>= k ∧ k (some its.toArray) = pure (ps.zip (g us its ws))) :
    ∃ gg, KBn K fd ps n ks gg (fun vs zs => g vs dvs zs) := by
  obtain ⟨oc, od, dV, kV, doc, pm, an, cdv, ct, osl, rfl, lk, hcd, hD, hK⟩ := F.ex
  rcases hD with ⟨e, _⟩ | ⟨_, T, o, its, m, rfl, lT, oT, rT⟩
  · exact absurd e hd
  · refine ⟨fun us ws => g us its ws, ⟨fun s us ws X l1 l2 => ?_, fun r1 r2 => hrel r1 rT r2⟩⟩
    obtain ⟨k, e1, e2⟩ := h T kV doc pm an cdv ct us its ws l1 rT.length.symm l2
    refine BindsTo.of_looks fun M => ?_
    rw [e1]
    exact looks_items X lT oT (.of_pure e2)
section
variable {X : Cx} {x : Str} {p pos : Pos} {e : Expr} {es : List Expr} {t tk : TA} {k n : Nat} {f : Addr} {fd : FuncData} {ps ks : List Str} {sp : Sp} {dvs : List V} {kws : List Keyword} {gV : List V → List V → List V}
theorem pe_calD (C : CalD X.prog X.w X.K X.mg X.base CX0 k x f fd ps sp dvs) (hr : Room k X.A) (ha : PA X (e :: es) t) (hg : Gl X x := by rfl) (hdb : (x == ("__debug__" : Str)) = false := by decide)
    (he : starEach (e :: es) X.env = (false, eval e X.env) :: starEach es X.env := by rfl) (hpl : (backTo pos (starEach es X.env)).any (·.1) = false := by rfl) :
    PE X (.Call (.Name x p) (e :: es) [] pos) (tCall sp dvs E0 t) := by
  obtain ⟨ds, hv, hb⟩ := C.b
  exact pe_call C.ok hr hg C.g C.kp hb hv pass0 ha hdb he hpl
theorem pe_calK (C : CalK X.prog X.w X.K X.mg X.base CX0 k x f fd ps sp n ks gV) (hr : Room k X.A) (ha : PA X (e :: es) t) (hkw : PK X kws tk) (hg : Gl X x := by rfl)
    (hall : (backToKw pos (keywordEach kws X.env)).all (·.1.isSome) = true := by rfl) (hks : (backToKw pos (keywordEach kws X.env)).filterMap (·.1) = ks := by rfl)
    (hdb : (x == ("__debug__" : Str)) = false := by decide) (he : starEach (e :: es) X.env = (false, eval e X.env) :: starEach es X.env := by rfl)
    (hpl : ((backTo pos (starEach (e :: es) X.env)).any (·.1) || (backToKw pos (keywordEach kws X.env)).any (·.1.isNone)) = false := by rfl) :
    PE X (.Call (.Name x p) (e :: es) kws pos) (tCallN n ks.length sp gV E0 t tk) := by
  obtain ⟨g, hb⟩ := C.b
  exact pe_callN C.ok hr hg C.g C.kp hb pass0 ha hkw hall hks hdb he hpl
end
theorem pe_gref {X : Cx} {x : Str} {a : Addr} {pos : Pos} (hg : Gl X x) (hm : X.mg x = some (.ref a)) (hd : (x == ("__debug__" : Str)) = false := by decide) : PE X (.Name x pos) (tC (.ref a)) := pe_glob hg hm rfl hd
theorem pe_gint {X : Cx} {x : Str} {n : Int} {pos : Pos} (hg : Gl X x) (hm : ∃ t, X.mg x = some (.int n t)) (hd : (x == ("__debug__" : Str)) = false := by decide) : PE X (.Name x pos) (tC (.int n)) := by
  obtain ⟨t, h⟩ := hm
  exact pe_glob hg h ⟨t, rfl⟩ hd
theorem pe_gstr {X : Cx} {x : Str} {n : Str} {pos : Pos} (hg : Gl X x) (hm : ∃ t, X.mg x = some (.str n t)) (hd : (x == ("__debug__" : Str)) = false := by decide) : PE X (.Name x pos) (tC (.str n)) := by
  obtain ⟨t, h⟩ := hm
  exact pe_glob hg h ⟨t, rfl⟩ hd
theorem pe_tyN {X : Cx} {x : Str} {pos : Pos} (n : String) (hg : Gl X x) (hm : X.mg x = none) (hv : bootBuiltins x = some (.type n)) (hn : x ≠ "__name__" := by decide) (hd : (x == ("__debug__" : Str)) = false := by decide) : PE X (.Name x pos) (tC (.ty n)) := pe_bltn hg hm hv rfl hn hd
/-! readings, a step at a time -/
section
variable {K : Fr} {σ : St} {H : Hp} {Q : VK} {i : Nat} {v x y : V} {D : Ends} {a b p : Addr} {xs ys : List V}
theorem w_var (h : σ[i]? = some (some v)) (q : Q v H) : tVar i σ H Q := ⟨v, h, q⟩
theorem w_c (q : Q v H) : tC v σ H Q := q
theorem w_I0 {g : Int → Int → V} {m n : Int} (q : Q (g m n) H) : rI0 g (.int m) (.int n) H Q := ⟨m, n, rfl, rfl, q⟩
theorem w_I {C : Int → Int → Prop} {g : Int → Int → V} {m n : Int} (c : C m n) (q : Q (g m n) H) : rI C g (.int m) (.int n) H Q := ⟨m, n, rfl, rfl, c, q⟩
theorem w_U {g : Int → V} {m : Int} (q : Q (g m) H) : rU g (.int m) H Q := ⟨m, rfl, q⟩
theorem w_eq (h : scal x y = true) (q : Q (.bl (decide (x = y))) H) : rEq x y H Q := ⟨h, q⟩
theorem w_ne (h : scal x y = true) (q : Q (.bl (!decide (x = y))) H) : rNe x y H Q := ⟨h, q⟩
theorem w_ixL {m : Int} (h : SqL K H p xs) (e : atI xs m = some v) (q : Q v H) : rIxL K (.ref p) (.int m) H Q := ⟨p, xs, m, v, rfl, rfl, h, e, q⟩
theorem w_ixT {m : Int} (h : SqT K H p xs) (e : atI xs m = some v) (q : Q v H) : rIxT K (.ref p) (.int m) H Q := ⟨p, xs, m, v, rfl, rfl, h, e, q⟩
theorem w_setL {m : Int} {j : Nat} {R : Hp → Prop} (h : H p = some (.lst xs)) (e : ixN xs.length m = some j) (q : R (upd H p (.lst (xs.set j v)))) : rSetL (.ref p) (.int m) v H R := ⟨p, xs, m, j, rfl, rfl, h, e, q⟩
theorem w_eqD {d e : PyData} (h1 : Dp K H x d) (h2 : Dp K H y e) (s1 : SeqAt.shaped d = true) (s2 : SeqAt.shaped e = true) (q : Q (.bl (PyData.eqv d e)) H) : rEqD K x y H Q := ⟨d, e, h1, h2, s1, s2, q⟩
theorem w_neD {d e : PyData} (h1 : Dp K H x d) (h2 : Dp K H y e) (s1 : SeqAt.shaped d = true) (s2 : SeqAt.shaped e = true) (q : Q (.bl (!PyData.eqv d e)) H) : rNeD K x y H Q := ⟨d, e, h1, h2, s1, s2, q⟩
theorem w_tup {t : TA} (h : t σ H fun xs H1 => xs.length ≤ sizeLine ∧ ∀ p, H1 p = none → Q (.ref p) (upd H1 p (.tup xs))) : tTup t σ H Q := h
/-- a test -/
theorem w_test {c : Bool} {R : Bool → Hp → Prop} (q : R c H) : ∃ k, V.bl c = .bl k ∧ R k H := ⟨c, rfl, q⟩
theorem ifB {c : Prop} [Decidable c] {A B : Prop} (h1 : c → A) (h2 : ¬ c → B) : if decide c = true then A else B := by
  by_cases h : c
  · rw [if_pos (decide_eq_true h)]; exact h1 h
  · rw [if_neg (by simpa using h)]; exact h2 h
theorem ifNB {c : Prop} [Decidable c] {A B : Prop} (h1 : ¬ c → A) (h2 : c → B) : if (!decide c) = true then A else B := by
  by_cases h : c
  · rw [if_neg (by simpa using h)]; exact h2 h
  · rw [if_pos (by simpa using h)]; exact h1 h
theorem ifBool {c : Bool} {A B : Prop} (h1 : c = true → A) (h2 : c = false → B) : if c = true then A else B := by
  cases c with
  | true => rw [if_pos rfl]; exact h1 rfl
  | false => rw [if_neg (by decide)]; exact h2 rfl
theorem ifP {c : Prop} [Decidable c] {A B : Prop} (h : c) (q : A) : if c then A else B := by rw [if_pos h]; exact q
theorem ifN {c : Prop} [Decidable c] {A B : Prop} (h : ¬ c) (q : B) : if c then A else B := by rw [if_neg h]; exact q
theorem ifBT {c : Bool} {A B : Prop} (h : c = true) (q : A) : if c = true then A else B := by rw [if_pos h]; exact q
theorem ifBF {c : Bool} {A B : Prop} (h : c = false) (q : B) : if c = true then A else B := by rw [if_neg (by rw [h]; decide)]; exact q
end
/-! what isinstance sees of data -/
def tyD : PyData → String
  | .none => "NoneType"
  | .bool _ => "bool"
  | .int _ => "int"
  | .str _ => "str"
  | .list _ => "list"
  | .tuple _ => "tuple"
  | .dict _ => "dict"
theorem tyxL {K : Fr} {H : Hp} {a : Addr} {xs : List V} (h : SqL K H a xs) : TyX K H (.ref a) (.type "list") := by
  rcases h with (h | ⟨o, h⟩) | ⟨o, its, n, h, hc, _⟩
  · exact .base (.lst h)
  · exact .base (.frz h)
  · exact .kList h hc
theorem tyxT {K : Fr} {H : Hp} {a : Addr} {xs : List V} (h : SqT K H a xs) : TyX K H (.ref a) (.type "tuple") := by
  rcases h with (h | ⟨o, h⟩) | ⟨o, its, n, h, hc, _⟩
  · exact .base (.tup h)
  · exact .fTuple h
  · exact .kTuple h hc
theorem tyx {K : Fr} {H : Hp} {v : V} {d : PyData} (h : Dp K H v d) : TyX K H v (.type (tyD d)) := by
  cases h with
  | non => exact .base .non
  | bl b => exact .base (.bl b)
  | int i => exact .base (.int i)
  | str x => exact .base (.str x)
  | lst h _ => exact tyxL h
  | tup h _ => exact tyxT h
def isB (c : String) (d : PyData) : Bool := (kitB (tyD d) c).getD false
theorem isB_dict_none : isB "dict" .none = false := by simp only [isB, tyD]; decide +kernel
theorem isB_dict_bool (b : Bool) : isB "dict" (.bool b) = false := by simp only [isB, tyD]; decide +kernel
theorem isB_dict_int (i : Int) : isB "dict" (.int i) = false := by simp only [isB, tyD]; decide +kernel
theorem isB_dict_str (x : Str) : isB "dict" (.str x) = false := by simp only [isB, tyD]; decide +kernel
theorem isB_dict_list (ds : List PyData) : isB "dict" (.list ds) = false := by simp only [isB, tyD]; decide +kernel
theorem isB_dict_tuple (ds : List PyData) : isB "dict" (.tuple ds) = false := by simp only [isB, tyD]; decide +kernel
theorem isB_list_none : isB "list" .none = false := by simp only [isB, tyD]; decide +kernel
theorem isB_list_bool (b : Bool) : isB "list" (.bool b) = false := by simp only [isB, tyD]; decide +kernel
theorem isB_list_int (i : Int) : isB "list" (.int i) = false := by simp only [isB, tyD]; decide +kernel
theorem isB_list_str (x : Str) : isB "list" (.str x) = false := by simp only [isB, tyD]; decide +kernel
theorem isB_list_list (ds : List PyData) : isB "list" (.list ds) = true := by simp only [isB, tyD]; decide +kernel
theorem isB_list_tuple (ds : List PyData) : isB "list" (.tuple ds) = false := by simp only [isB, tyD]; decide +kernel
theorem isB_tuple_none : isB "tuple" .none = false := by simp only [isB, tyD]; decide +kernel
theorem isB_tuple_bool (b : Bool) : isB "tuple" (.bool b) = false := by simp only [isB, tyD]; decide +kernel
theorem isB_tuple_int (i : Int) : isB "tuple" (.int i) = false := by simp only [isB, tyD]; decide +kernel
theorem isB_tuple_str (x : Str) : isB "tuple" (.str x) = false := by simp only [isB, tyD]; decide +kernel
theorem isB_tuple_list (ds : List PyData) : isB "tuple" (.list ds) = false := by simp only [isB, tyD]; decide +kernel
theorem isB_tuple_tuple (ds : List PyData) : isB "tuple" (.tuple ds) = true := by simp only [isB, tyD]; decide +kernel
theorem isB_dict_dict (kvs : List (PyData × PyData)) : isB "dict" (.dict kvs) = true := by simp only [isB, tyD]; decide +kernel
theorem isB_list_dict (kvs : List (PyData × PyData)) : isB "list" (.dict kvs) = false := by simp only [isB, tyD]; decide +kernel
theorem isB_tuple_dict (kvs : List (PyData × PyData)) : isB "tuple" (.dict kvs) = false := by simp only [isB, tyD]; decide +kernel
theorem isB_bool_dict (kvs : List (PyData × PyData)) : isB "bool" (.dict kvs) = false := by simp only [isB, tyD]; decide +kernel
theorem isB_int_dict (kvs : List (PyData × PyData)) : isB "int" (.dict kvs) = false := by simp only [isB, tyD]; decide +kernel
theorem isB_str_dict (kvs : List (PyData × PyData)) : isB "str" (.dict kvs) = false := by simp only [isB, tyD]; decide +kernel
theorem isB_bool_none : isB "bool" .none = false := by simp only [isB, tyD]; decide +kernel
theorem isB_bool_bool (b : Bool) : isB "bool" (.bool b) = true := by simp only [isB, tyD]; decide +kernel
theorem isB_bool_int (i : Int) : isB "bool" (.int i) = false := by simp only [isB, tyD]; decide +kernel
theorem isB_bool_str (x : Str) : isB "bool" (.str x) = false := by simp only [isB, tyD]; decide +kernel
theorem isB_bool_list (ds : List PyData) : isB "bool" (.list ds) = false := by simp only [isB, tyD]; decide +kernel
theorem isB_bool_tuple (ds : List PyData) : isB "bool" (.tuple ds) = false := by simp only [isB, tyD]; decide +kernel
theorem isB_int_none : isB "int" .none = false := by simp only [isB, tyD]; decide +kernel
theorem isB_int_bool (b : Bool) : isB "int" (.bool b) = true := by simp only [isB, tyD]; decide +kernel
theorem isB_int_int (i : Int) : isB "int" (.int i) = true := by simp only [isB, tyD]; decide +kernel
theorem isB_int_str (x : Str) : isB "int" (.str x) = false := by simp only [isB, tyD]; decide +kernel
theorem isB_int_list (ds : List PyData) : isB "int" (.list ds) = false := by simp only [isB, tyD]; decide +kernel
theorem isB_int_tuple (ds : List PyData) : isB "int" (.tuple ds) = false := by simp only [isB, tyD]; decide +kernel
theorem isB_str_none : isB "str" .none = false := by simp only [isB, tyD]; decide +kernel
theorem isB_str_bool (b : Bool) : isB "str" (.bool b) = false := by simp only [isB, tyD]; decide +kernel
theorem isB_str_int (i : Int) : isB "str" (.int i) = false := by simp only [isB, tyD]; decide +kernel
theorem isB_str_str (x : Str) : isB "str" (.str x) = true := by simp only [isB, tyD]; decide +kernel
theorem isB_str_list (ds : List PyData) : isB "str" (.list ds) = false := by simp only [isB, tyD]; decide +kernel
theorem isB_str_tuple (ds : List PyData) : isB "str" (.tuple ds) = false := by simp only [isB, tyD]; decide +kernel
theorem kitIs {d : PyData} {c : String} (h : c = "dict" ∨ c = "list" ∨ c = "tuple" ∨ c = "bool" ∨ c = "int" ∨ c = "str") : kitB (tyD d) c = some (isB c d) := by
  rcases h with rfl | rfl | rfl | rfl | rfl | rfl <;> cases d <;> simp only [isB, tyD] <;> decide +kernel
theorem w_isi {K : Fr} {H : Hp} {v : V} {d : PyData} {c : String} {Q : VK} (h : Dp K H v d) (hc : c = "dict" ∨ c = "list" ∨ c = "tuple" ∨ c = "bool" ∨ c = "int" ∨ c = "str") (q : Q (.bl (isB c d)) H) :
    rIsi K [v, .ty c] H Q := ⟨v, .ty c, _, .type c, isB c d, rfl, .ty c, tyx h, kit_ty (kitIs hc), q⟩

/-! the same readings as equations: one statement is unfolded at a time, what follows it stays closed (Kt) -/
def Kt (u : TS) (D : Ends) (σ : St) (H : Hp) : Prop := u D σ H
theorem w_kt {u : TS} {D : Ends} {σ : St} {H : Hp} (h : u D σ H) : Kt u D σ H := h
/-- a new tuple, a new list -/
def MkT (xs : List V) (H : Hp) (Q : VK) : Prop := xs.length ≤ sizeLine ∧ ∀ p, H p = none → Q (.ref p) (upd H p (.tup xs))
def MkL (xs : List V) (H : Hp) (Q : VK) : Prop := xs.length ≤ sizeLine ∧ ∀ p, H p = none → Q (.ref p) (upd H p (.lst xs))
theorem szle {n : Nat} (h : n ≤ 100000) : n ≤ sizeLine := Nat.le_trans h (by decide)
theorem w_tupR {xs : List V} {H : Hp} {Q : VK} (hl : xs.length ≤ 100000) (k : ∀ p, H p = none → Q (.ref p) (upd H p (.tup xs))) : MkT xs H Q := ⟨szle hl, k⟩
theorem w_lstR {xs : List V} {H : Hp} {Q : VK} (hl : xs.length ≤ 100000) (k : ∀ p, H p = none → Q (.ref p) (upd H p (.lst xs))) : MkL xs H Q := ⟨szle hl, k⟩
/-- a for's turns; a comprehension's turns; a while's turns: closed too -/
def FB (J : It) (g : TG) (tb : TS) (D : Ends) (σ : St) (H : Hp) : Prop := ∃ W : Nat → Nat → St → Hp → Prop, (∃ m, W 0 m σ H) ∧ ∀ i m σ H, W i m σ H →
  (J.stop i H ∧ D.nx σ H) ∨ (J.go i H ∧ ∃ N : St → Hp → Prop, (∀ σ' H', N σ' H' → ∃ m', m' < m ∧ W (i + 1) m' σ' H') ∧ ∀ x H', J.yld i H x H' → g x σ H' fun σ2 H2 => tb { D with nx := N, ct := N, bk := D.nx } σ2 H2)
def LB (J : It) (g : TG) (tt : TT) (te : TE) (vs : List Nat) (σ : St) (D : Addr) (Q : VK) (H1 : Hp) : Prop := ∃ W : Nat → Nat → Hp → Prop, (∃ m, W 0 m (upd H1 D (.lst []))) ∧ ∀ i m H, W i m H →
  (J.stop i H ∧ Q (.ref D) H) ∨ (J.go i H ∧ ∃ Nx : Hp → Prop, (∀ H', Nx H' → ∃ m', m' < m ∧ W (i + 1) m' H') ∧ ∀ x H', J.yld i H x H' → g x (wipe σ vs) H' fun σ2 H2 => wipe σ2 vs = wipe σ vs ∧ tt σ2 H2 fun b H3 =>
    if b = true then te σ2 H3 fun y H4 => ∃ acc, H4 D = some (.lst acc) ∧ acc.length < sizeLine ∧ Nx (upd H4 D (.lst (acc ++ [y]))) else Nx H3)
def WB (W : Nat → St → Hp → Prop) (m : Nat) (tb : TS) (D : Ends) (σ : St) (H : Hp) : Prop := ∃ N : St → Hp → Prop, (∀ σ' H', N σ' H' → ∃ m', m' < m ∧ W m' σ' H') ∧ tb { D with nx := N, ct := N, bk := D.nx } σ H
theorem w_cut {t u : TS} {D : Ends} {σ : St} {H : Hp} (Mid : St → Hp → Prop) (h : ∀ M : St → Hp → Prop, (∀ σ' H', Mid σ' H' → M σ' H') → t { D with nx := M } σ H) (h2 : ∀ σ' H', Mid σ' H' → u D σ' H') : Evl.tCut t u D σ H := ⟨Mid, h Mid fun _ _ q => q, h2⟩
section
variable {J : It} {n : Nat} {G : Hp → Prop} {Y : Nat → Hp → V → Hp → Prop} {K : Fr} {a : Addr} {xs : List V} {g : TG} {tb : TS} {D : Ends} {σ : St} {H : Hp} {tt : TT} {te : TE} {vs : List Nat} {L : Addr} {Q : VK} {lo : Int} {z : Str}
theorem w_for (w : Walk J n G Y) (Pv : Nat → St → Hp → Prop) (h0 : Pv 0 σ H) (hG : ∀ i σ H, i ≤ n → Pv i σ H → G H)
    (hs : ∀ i x σ H H', i < n → Pv i σ H → Y i H x H' → ∀ N : St → Hp → Prop, (∀ σ' H', Pv (i + 1) σ' H' → N σ' H') → g x σ H' fun σ2 H2 => tb { D with nx := N, ct := N, bk := D.nx } σ2 H2) (hd : ∀ σ H, Pv n σ H → D.nx σ H) :
    FB J g tb D σ H := for_it w Pv h0 hG (fun i x σ H H' hi p y => hs i x σ H H' hi p y _ fun _ _ q => q) hd
theorem w_lc (w : Walk J n G Y) (Pv : Nat → Hp → Prop) (h0 : Pv 0 (upd H L (.lst []))) (hG : ∀ i H, i ≤ n → Pv i H → G H)
    (hs : ∀ i x H H', i < n → Pv i H → Y i H x H' → ∀ N : Hp → Prop, (∀ H', Pv (i + 1) H' → N H') → g x (wipe σ vs) H' fun σ2 H2 => wipe σ2 vs = wipe σ vs ∧ tt σ2 H2 fun b H3 =>
      if b = true then te σ2 H3 fun y H4 => ∃ acc, H4 L = some (.lst acc) ∧ acc.length < sizeLine ∧ N (upd H4 L (.lst (acc ++ [y]))) else N H3) (hd : ∀ H, Pv n H → Q (.ref L) H) :
    LB J g tt te vs σ L Q H := lc_it (Qd := fun H => Q (.ref L) H) w Pv h0 hG (fun i x H H' hi p y => hs i x H H' hi p y _ fun _ q => q) hd
theorem w_forL (xs : List V) (Pv : Nat → St → Hp → Prop) (h0 : Pv 0 σ H) (hG : ∀ i σ H, i ≤ xs.length → Pv i σ H → SqL K H a xs)
    (hs : ∀ i x σ H, xs[i]? = some x → Pv i σ H → ∀ N : St → Hp → Prop, (∀ σ' H', Pv (i + 1) σ' H' → N σ' H') → g x σ H fun σ2 H2 => tb { D with nx := N, ct := N, bk := D.nx } σ2 H2) (hd : ∀ σ H, Pv xs.length σ H → D.nx σ H) :
    FB (Itl K a) g tb D σ H := w_for walk_list Pv h0 hG (fun i x σ H H' _ p ⟨e, y⟩ => by subst e; exact hs i x σ H' y p) hd
theorem w_forT (xs : List V) (Pv : Nat → St → Hp → Prop) (h0 : Pv 0 σ H) (hG : ∀ i σ H, i ≤ xs.length → Pv i σ H → SqT K H a xs)
    (hs : ∀ i x σ H, xs[i]? = some x → Pv i σ H → ∀ N : St → Hp → Prop, (∀ σ' H', Pv (i + 1) σ' H' → N σ' H') → g x σ H fun σ2 H2 => tb { D with nx := N, ct := N, bk := D.nx } σ2 H2) (hd : ∀ σ H, Pv xs.length σ H → D.nx σ H) :
    FB (Itt K a) g tb D σ H := w_for walk_tup Pv h0 hG (fun i x σ H H' _ p ⟨e, y⟩ => by subst e; exact hs i x σ H' y p) hd
theorem w_forR (Pv : Nat → St → Hp → Prop) (h0 : Pv 0 σ H)
    (hs : ∀ i σ H, i < n → Pv i σ H → ∀ N : St → Hp → Prop, (∀ σ' H', Pv (i + 1) σ' H' → N σ' H') → g (.int (lo + i)) σ H fun σ2 H2 => tb { D with nx := N, ct := N, bk := D.nx } σ2 H2) (hd : ∀ σ H, Pv n σ H → D.nx σ H) :
    FB (Itr lo n) g tb D σ H := w_for walk_range Pv h0 (fun _ _ _ _ _ => trivial) (fun i x σ H H' hi p ⟨e, y⟩ => by subst e; subst y; exact hs i σ H' hi p) hd
theorem w_forS (Pv : Nat → St → Hp → Prop) (h0 : Pv 0 σ H)
    (hs : ∀ i c σ H, z.cps.toList[i]? = some c → Pv i σ H → ∀ N : St → Hp → Prop, (∀ σ' H', Pv (i + 1) σ' H' → N σ' H') → g (.str ⟨#[c]⟩) σ H fun σ2 H2 => tb { D with nx := N, ct := N, bk := D.nx } σ2 H2) (hd : ∀ σ H, Pv z.cps.toList.length σ H → D.nx σ H) :
    FB (Its z) g tb D σ H := w_for walk_str Pv h0 (fun _ _ _ _ _ => trivial) (fun i x σ H H' _ p ⟨e, c, y, e2⟩ => by subst e; subst e2; exact hs i c σ H' (by rw [Array.getElem?_toList]; exact y) p) (by rw [Array.length_toList] at hd; exact hd)
theorem w_lcL (xs : List V) (Pv : Nat → Hp → Prop) (h0 : Pv 0 (upd H L (.lst []))) (hG : ∀ i H, i ≤ xs.length → Pv i H → SqL K H a xs)
    (hs : ∀ i x H, xs[i]? = some x → Pv i H → ∀ N : Hp → Prop, (∀ H', Pv (i + 1) H' → N H') → g x (wipe σ vs) H fun σ2 H2 => wipe σ2 vs = wipe σ vs ∧ tt σ2 H2 fun b H3 =>
      if b = true then te σ2 H3 fun y H4 => ∃ acc, H4 L = some (.lst acc) ∧ acc.length < sizeLine ∧ N (upd H4 L (.lst (acc ++ [y]))) else N H3) (hd : ∀ H, Pv xs.length H → Q (.ref L) H) :
    LB (Itl K a) g tt te vs σ L Q H := w_lc walk_list Pv h0 hG (fun i x H H' _ p ⟨e, y⟩ => by subst e; exact hs i x H' y p) hd
theorem w_lcT (xs : List V) (Pv : Nat → Hp → Prop) (h0 : Pv 0 (upd H L (.lst []))) (hG : ∀ i H, i ≤ xs.length → Pv i H → SqT K H a xs)
    (hs : ∀ i x H, xs[i]? = some x → Pv i H → ∀ N : Hp → Prop, (∀ H', Pv (i + 1) H' → N H') → g x (wipe σ vs) H fun σ2 H2 => wipe σ2 vs = wipe σ vs ∧ tt σ2 H2 fun b H3 =>
      if b = true then te σ2 H3 fun y H4 => ∃ acc, H4 L = some (.lst acc) ∧ acc.length < sizeLine ∧ N (upd H4 L (.lst (acc ++ [y]))) else N H3) (hd : ∀ H, Pv xs.length H → Q (.ref L) H) :
    LB (Itt K a) g tt te vs σ L Q H := w_lc walk_tup Pv h0 hG (fun i x H H' _ p ⟨e, y⟩ => by subst e; exact hs i x H' y p) hd
theorem w_lcR (Pv : Nat → Hp → Prop) (h0 : Pv 0 (upd H L (.lst [])))
    (hs : ∀ i H, i < n → Pv i H → ∀ N : Hp → Prop, (∀ H', Pv (i + 1) H' → N H') → g (.int (lo + i)) (wipe σ vs) H fun σ2 H2 => wipe σ2 vs = wipe σ vs ∧ tt σ2 H2 fun b H3 =>
      if b = true then te σ2 H3 fun y H4 => ∃ acc, H4 L = some (.lst acc) ∧ acc.length < sizeLine ∧ N (upd H4 L (.lst (acc ++ [y]))) else N H3) (hd : ∀ H, Pv n H → Q (.ref L) H) :
    LB (Itr lo n) g tt te vs σ L Q H := w_lc walk_range Pv h0 (fun _ _ _ _ => trivial) (fun i x H H' hi p ⟨e, y⟩ => by subst e; subst y; exact hs i H' hi p) hd
theorem w_lcS (Pv : Nat → Hp → Prop) (h0 : Pv 0 (upd H L (.lst [])))
    (hs : ∀ i c H, z.cps.toList[i]? = some c → Pv i H → ∀ N : Hp → Prop, (∀ H', Pv (i + 1) H' → N H') → g (.str ⟨#[c]⟩) (wipe σ vs) H fun σ2 H2 => wipe σ2 vs = wipe σ vs ∧ tt σ2 H2 fun b H3 =>
      if b = true then te σ2 H3 fun y H4 => ∃ acc, H4 L = some (.lst acc) ∧ acc.length < sizeLine ∧ N (upd H4 L (.lst (acc ++ [y]))) else N H3) (hd : ∀ H, Pv z.cps.toList.length H → Q (.ref L) H) :
    LB (Its z) g tt te vs σ L Q H := w_lc walk_str Pv h0 (fun _ _ _ _ => trivial) (fun i x H H' _ p ⟨e, c, y, e2⟩ => by subst e; subst e2; exact hs i c H' (by rw [Array.getElem?_toList]; exact y) p) (by rw [Array.length_toList] at hd; exact hd)
end
theorem w_while {c : TT} {tb : TS} {D : Ends} {σ : St} {H : Hp} (W : Nat → St → Hp → Prop) (m : Nat) (h0 : W m σ H)
    (hs : ∀ m σ H, W m σ H → c σ H fun b H1 => if b = true then WB W m tb D σ H1 else D.nx σ H1) : tWhile c tb D σ H := ⟨W, ⟨m, h0⟩, hs⟩
theorem w_wb {W : Nat → St → Hp → Prop} {m : Nat} {tb : TS} {D : Ends} {σ : St} {H : Hp} (h : ∀ N : St → Hp → Prop, (∀ m' σ' H', m' < m → W m' σ' H' → N σ' H') → tb { D with nx := N, ct := N, bk := D.nx } σ H) : WB W m tb D σ H := ⟨_, fun _ _ q => q, h _ fun m' _ _ l w => ⟨m', l, w⟩⟩
section
variable {K : Fr} {σ : St} {H : Hp} {Q : VK} {D : Ends} {te ta tb tc tl th : TE} {ts tu : TS} {g : TG} {c t : TT} {al ar tk : TA} {wi : TI} {R : Bool → Hp → Prop} {RL : List V → Hp → Prop} {RO : Option Int → Hp → Prop} {RI : It → Hp → Prop} {RG : St → Hp → Prop}
theorem e_seq : tSeq ts tu D σ H = ts { D with nx := Kt tu D } σ H := rfl
theorem e_next : tNext D σ H = D.nx σ H := rfl
theorem e_brk : tBreak D σ H = D.bk σ H := rfl
theorem e_cont : tCont D σ H = D.ct σ H := rfl
theorem e_drop : tDrop te D σ H = te σ H (fun _ H1 => D.nx σ H1) := rfl
theorem e_ret : tRet te D σ H = te σ H D.rt := rfl
theorem e_retN : tRetN D σ H = D.rt .non H := rfl
theorem e_asg : tAsg te g D σ H = te σ H (fun x H1 => g x σ H1 D.nx) := rfl
theorem e_if : tIfS c ts tu D σ H = c σ H (fun b H1 => if b = true then ts D σ H1 else tu D σ H1) := rfl
theorem e_par {i j : Nat} : tPar i j al D σ H = al σ H (fun vs H1 => ∃ v w, vs = [v, w] ∧ D.nx ((σ.set i (some v)).set j (some w)) H1) := rfl
theorem e_par3 {i j l : Nat} : tPar3 i j l al D σ H = al σ H (fun vs H1 => ∃ u v w, vs = [u, v, w] ∧ D.nx (((σ.set i (some u)).set j (some v)).set l (some w)) H1) := rfl
theorem e_for : tFor wi g ts D σ H = wi σ H (fun J H1 => FB J g ts D σ H1) := rfl
theorem e_name {i : Nat} {v : V} : gName i v σ H RG = RG (σ.set i (some v)) H := rfl
theorem e_gsub {s : TSet} {v : V} : gSub ta tb s v σ H RG = ta σ H (fun o H1 => tb σ H1 fun i H2 => s o i v H2 fun H3 => RG σ H3) := rfl
theorem e_gtup {n : Nat} {u : TGs} {a : Addr} : gTup K n u (.ref a) σ H RG = ∃ xs, SqT K H a xs ∧ xs.length = n ∧ u xs σ H RG := propext ⟨fun ⟨a', xs, e, r⟩ => by cases e; exact ⟨xs, r⟩, fun ⟨xs, r⟩ => ⟨a, xs, rfl, r⟩⟩
theorem e_gnil {xs : List V} : gNil xs σ H RG = (xs = [] ∧ RG σ H) := rfl
theorem e_gcons {u : TGs} {v : V} {xs : List V} : gCons g u (v :: xs) σ H RG = g v σ H (fun σ' H' => u xs σ' H' RG) := propext ⟨fun ⟨v', r, e, q⟩ => by cases e; exact q, fun q => ⟨v, xs, rfl, q⟩⟩
theorem e_setL {p : Addr} {m : Int} {v : V} {X : Hp → Prop} : rSetL (.ref p) (.int m) v H X = ∃ xs j, H p = some (.lst xs) ∧ ixN xs.length m = some j ∧ X (upd H p (.lst (xs.set j v))) :=
  propext ⟨fun ⟨p', xs, k, j, e1, e2, r⟩ => by cases e1; cases e2; exact ⟨xs, j, r⟩, fun ⟨xs, j, r⟩ => ⟨p, xs, m, j, rfl, rfl, r⟩⟩
/-- expressions -/
theorem e_var {i : Nat} : tVar i σ H Q = ∃ v, σ[i]? = some (some v) ∧ Q v H := rfl
theorem e_c {v : V} : tC v σ H Q = Q v H := rfl
theorem e_op {r : R2} : tOp r ta tb σ H Q = ta σ H (fun x H1 => tb σ H1 fun y H2 => r x y H2 Q) := rfl
theorem e_un {r : V → Hp → VK → Prop} : tUn r ta σ H Q = ta σ H (fun x H1 => r x H1 Q) := rfl
theorem e_nil : tNil σ H RL = RL [] H := rfl
theorem e_cons : tCons te al σ H RL = te σ H (fun x H1 => al σ H1 fun xs H2 => RL (x :: xs) H2) := rfl
theorem e_tup : tTup al σ H Q = al σ H (fun xs H1 => MkT xs H1 Q) := rfl
theorem e_lst : tLst al σ H Q = al σ H (fun xs H1 => MkL xs H1 Q) := rfl
theorem e_call {sp : Sp} {dvs : List V} {E : XK} : tCall sp dvs E al σ H Q = al σ H (fun vs H1 => sp (vs ++ dvs) H1 Q E) := rfl
theorem e_callN {n m : Nat} {sp : Sp} {gV : List V → List V → List V} {E : XK} : tCallN n m sp gV E al tk σ H Q = al σ H (fun vs H1 => tk σ H1 fun zs H2 => vs.length = n ∧ zs.length = m ∧ sp (gV vs zs) H2 Q E) := rfl
theorem e_CB {r : List V → Hp → VK → Prop} : tCB r al σ H Q = al σ H (fun vs H1 => r vs H1 Q) := rfl
theorem e_test : tTest te σ H R = te σ H (fun x H1 => ∃ k, x = .bl k ∧ R k H1) := rfl
theorem e_B : tB te σ H R = te σ H (fun x H1 => ∃ k, x = .bl k ∧ R k H1) := rfl
theorem e_and : tAnd c t σ H R = c σ H (fun b H1 => if b = true then t σ H1 R else R false H1) := rfl
theorem e_or : tOr c t σ H R = c σ H (fun b H1 => if b = true then R true H1 else t σ H1 R) := rfl
theorem e_not : tNot c σ H R = c σ H (fun b H1 => R (!b) H1) := rfl
theorem e_andV : tAndV ta tb σ H Q = ta σ H (fun x H1 => ∃ b, x = .bl b ∧ if b = true then tb σ H1 Q else Q (.bl false) H1) := rfl
theorem e_orV : tOrV ta tb σ H Q = ta σ H (fun x H1 => ∃ b, x = .bl b ∧ if b = true then Q (.bl true) H1 else tb σ H1 Q) := rfl
theorem e_notV : tNotV ta σ H Q = ta σ H (fun x H1 => ∃ b, x = .bl b ∧ Q (.bl (!b)) H1) := rfl
theorem e_ifE : tIf c ta tb σ H Q = c σ H (fun b H1 => if b = true then ta σ H1 Q else tb σ H1 Q) := rfl
theorem e_chain {r r' : R2} : tChain r r' ta tb tc σ H Q = ta σ H (fun x H1 => tb σ H1 fun y H2 => r x y H2 fun z H3 => ∃ k, z = .bl k ∧ (if k = true then tc σ H3 fun w' H4 => r' y w' H4 Q else Q (.bl false) H3)) := rfl
theorem e_sl {r : V → Option Int → Option Int → Hp → VK → Prop} {to1 to2 : TO} : tSl r te to1 to2 σ H Q = te σ H (fun x H1 => to1 σ H1 fun l H2 => to2 σ H2 fun u H3 => r x l u H3 Q) := rfl
theorem e_nopart : tNoPart σ H RO = RO none H := rfl
theorem e_part : tPart te σ H RO = te σ H (fun x H1 => ∃ i, x = .int i ∧ RO (some i) H1) := rfl
theorem e_bm {T : String} {r : V → List V → Hp → VK → Prop} : tBM K T r te al σ H Q = te σ H (fun x H1 => tyV K T x H1 ∧ al σ H1 fun xs H2 => r x xs H2 Q) := rfl
theorem e_bm0 {T : String} {r : V → List V → Hp → VK → Prop} : tBM0 K T r te σ H Q = te σ H (fun x H1 => tyV K T x H1 ∧ r x [] H1 Q) := rfl
theorem e_m0 {r : V → List V → Hp → VK → Prop} : tM0 r te σ H Q = te σ H (fun x H1 => (∃ a, x = .str a) ∧ r x [] H1 Q) := rfl
theorem e_m1 {r : V → List V → Hp → VK → Prop} : tM1 r ta te σ H Q = ta σ H (fun x H1 => (∃ a, x = .str a) ∧ te σ H1 fun y H2 => r x [y] H2 Q) := rfl
theorem e_fmt : tFmt te σ H Q = te σ H (fun x H1 => (∃ y : Str, x = .str y ∧ y.length ≤ sizeLine ∧ Q (.str y) H1) ∨ ∃ i : Int, x = .int i ∧ i.natAbs.log2 < 1920 ∧ Q (.str (toString i)) H1) := rfl
theorem e_js0 {acc : Str} {X : Str → Hp → Prop} : tJs [] acc σ H X = X acc H := rfl
theorem e_js {acc : Str} {X : Str → Hp → Prop} {l : List TE} : tJs (te :: l) acc σ H X = te σ H (fun x H1 => ∃ y : Str, x = .str y ∧ (acc ++ y).length ≤ sizeLine ∧ tJs l (acc ++ y) σ H1 X) := rfl
theorem e_lc {tt : TT} {vs : List Nat} : tLc wi g tt te vs σ H Q = wi σ H (fun J H1 => ∀ D, H1 D = none → LB J g tt te vs σ D Q H1) := rfl
theorem e_yes : tYes σ H R = R true H := rfl
theorem e_iList : iList K te σ H RI = te σ H (fun x H1 => ∃ a, x = .ref a ∧ (∃ xs, SqL K H1 a xs) ∧ RI (Itl K a) H1) := rfl
theorem e_iTup : iTup K te σ H RI = te σ H (fun x H1 => ∃ a, x = .ref a ∧ (∃ xs, SqT K H1 a xs) ∧ RI (Itt K a) H1) := rfl
theorem e_iR1 : iRng1 al σ H RI = al σ H (fun vs H1 => ∃ j : Int, vs = [.int j] ∧ -(2 ^ 62) ≤ j ∧ j < 2 ^ 62 ∧ RI (Itr 0 j.toNat) H1) := rfl
theorem e_iR2 : iRng2 al σ H RI = al σ H (fun vs H1 => ∃ i j : Int, vs = [.int i, .int j] ∧ (-(2 ^ 62) ≤ i ∧ i < 2 ^ 62 ∧ -(2 ^ 62) ≤ j ∧ j < 2 ^ 62) ∧ RI (Itr i (j - i).toNat) H1) := rfl
theorem e_iStr : iStr te σ H RI = te σ H (fun v H1 => ∃ x, v = .str x ∧ RI (Its x) H1) := rfl
theorem e_iEnum : iEnum K al σ H RI = al σ H (fun vs H1 => ∃ a xs, vs = [.ref a] ∧ SqL K H1 a xs ∧ RI (Ite K a) H1) := rfl
/-- operators on values -/
theorem e_I0 {f : Int → Int → V} {m n : Int} : rI0 f (.int m) (.int n) H Q = Q (f m n) H := propext ⟨fun ⟨i, j, e1, e2, q⟩ => by cases e1; cases e2; exact q, fun q => ⟨m, n, rfl, rfl, q⟩⟩
theorem e_I {C : Int → Int → Prop} {f : Int → Int → V} {m n : Int} : rI C f (.int m) (.int n) H Q = (C m n ∧ Q (f m n) H) := propext ⟨fun ⟨i, j, e1, e2, q⟩ => by cases e1; cases e2; exact q, fun q => ⟨m, n, rfl, rfl, q⟩⟩
theorem e_U {f : Int → V} {m : Int} : rU f (.int m) H Q = Q (f m) H := propext ⟨fun ⟨i, e1, q⟩ => by cases e1; exact q, fun q => ⟨m, rfl, q⟩⟩
theorem e_eqI {m n : Int} : rEq (.int m) (.int n) H Q = Q (.bl (decide (m = n))) H := propext ⟨fun ⟨_, q⟩ => by rwa [show decide (V.int m = V.int n) = decide (m = n) by simp] at q, fun q => ⟨rfl, by rwa [show decide (V.int m = V.int n) = decide (m = n) by simp]⟩⟩
theorem e_neI {m n : Int} : rNe (.int m) (.int n) H Q = Q (.bl (!decide (m = n))) H := propext ⟨fun ⟨_, q⟩ => by rwa [show decide (V.int m = V.int n) = decide (m = n) by simp] at q, fun q => ⟨rfl, by rwa [show decide (V.int m = V.int n) = decide (m = n) by simp]⟩⟩
theorem e_eqS {m n : Str} : rEq (.str m) (.str n) H Q = Q (.bl (decide (m = n))) H := propext ⟨fun ⟨_, q⟩ => by rwa [show decide (V.str m = V.str n) = decide (m = n) by simp] at q, fun q => ⟨rfl, by rwa [show decide (V.str m = V.str n) = decide (m = n) by simp]⟩⟩
theorem e_neS {m n : Str} : rNe (.str m) (.str n) H Q = Q (.bl (!decide (m = n))) H := propext ⟨fun ⟨_, q⟩ => by rwa [show decide (V.str m = V.str n) = decide (m = n) by simp] at q, fun q => ⟨rfl, by rwa [show decide (V.str m = V.str n) = decide (m = n) by simp]⟩⟩
theorem e_eqB {m n : Bool} : rEq (.bl m) (.bl n) H Q = Q (.bl (decide (m = n))) H := propext ⟨fun ⟨_, q⟩ => by rwa [show decide (V.bl m = V.bl n) = decide (m = n) by simp] at q, fun q => ⟨rfl, by rwa [show decide (V.bl m = V.bl n) = decide (m = n) by simp]⟩⟩
theorem e_neB {m n : Bool} : rNe (.bl m) (.bl n) H Q = Q (.bl (!decide (m = n))) H := propext ⟨fun ⟨_, q⟩ => by rwa [show decide (V.bl m = V.bl n) = decide (m = n) by simp] at q, fun q => ⟨rfl, by rwa [show decide (V.bl m = V.bl n) = decide (m = n) by simp]⟩⟩
theorem e_isB {m n : Bool} : rIsB (.bl m) (.bl n) H Q = Q (.bl (decide (m = n))) H := propext ⟨fun ⟨i, j, e1, e2, q⟩ => by cases e1; cases e2; exact q, fun q => ⟨m, n, rfl, rfl, q⟩⟩
theorem e_notB {m n : Bool} : rNotB (.bl m) (.bl n) H Q = Q (.bl (!decide (m = n))) H := propext ⟨fun ⟨i, j, e1, e2, q⟩ => by cases e1; cases e2; exact q, fun q => ⟨m, n, rfl, rfl, q⟩⟩
theorem e_ixL {p : Addr} {m : Int} : rIxL K (.ref p) (.int m) H Q = ∃ xs v, SqL K H p xs ∧ atI xs m = some v ∧ Q v H := propext ⟨fun ⟨p', xs, i, v, e1, e2, r⟩ => by cases e1; cases e2; exact ⟨xs, v, r⟩, fun ⟨xs, v, r⟩ => ⟨p, xs, m, v, rfl, rfl, r⟩⟩
theorem e_ixT {p : Addr} {m : Int} : rIxT K (.ref p) (.int m) H Q = ∃ xs v, SqT K H p xs ∧ atI xs m = some v ∧ Q v H := propext ⟨fun ⟨p', xs, i, v, e1, e2, r⟩ => by cases e1; cases e2; exact ⟨xs, v, r⟩, fun ⟨xs, v, r⟩ => ⟨p, xs, m, v, rfl, rfl, r⟩⟩
theorem e_ixS {z : Str} {m : Int} : rIxS (.str z) (.int m) H Q = ∃ c, z.length ≤ sizeLine ∧ atI z.cps.toList m = some c ∧ Q (.str ⟨#[c]⟩) H := propext ⟨fun ⟨p', i, v, e1, e2, r⟩ => by cases e1; cases e2; exact ⟨v, r⟩, fun ⟨v, r⟩ => ⟨z, m, v, rfl, rfl, r⟩⟩
theorem e_slS {z : Str} {lo hi : Option Int} : rSlS (.str z) lo hi H Q = (z.length ≤ sizeLine ∧ Q (.str (cutS z lo hi)) H) := propext ⟨fun ⟨z', e1, r⟩ => by cases e1; exact r, fun r => ⟨z, rfl, r⟩⟩
theorem e_slL {p : Addr} {lo hi : Option Int} : rSlL K (.ref p) lo hi H Q = ∃ xs, SqL K H p xs ∧ ∀ q, H q = none → Q (.ref q) (upd H q (.lst (cutV xs lo hi))) := propext ⟨fun ⟨z', xs, e1, r⟩ => by cases e1; exact ⟨xs, r⟩, fun ⟨xs, r⟩ => ⟨p, xs, rfl, r⟩⟩
theorem e_app {p : Addr} {y : V} : rAppend (.ref p) [y] H Q = ∃ xs, H p = some (.lst xs) ∧ xs.length < sizeLine ∧ Q .non (upd H p (.lst (xs ++ [y]))) := propext ⟨fun ⟨z', xs, y', e1, e2, r⟩ => by cases e1; cases e2; exact ⟨xs, r⟩, fun ⟨xs, r⟩ => ⟨p, xs, y, rfl, rfl, r⟩⟩
theorem e_pop {p : Addr} : rPop (.ref p) [] H Q = ∃ xs y, H p = some (.lst xs) ∧ xs[xs.length - 1]? = some y ∧ Q y (upd H p (.lst xs.dropLast)) := propext ⟨fun ⟨z', xs, y', e1, e2, r⟩ => by cases e1; exact ⟨xs, y', r⟩, fun ⟨xs, y, r⟩ => ⟨p, xs, y, rfl, rfl, r⟩⟩
theorem e_cat {p q : Addr} : rCat (.ref p) (.ref q) H Q = ∃ xs zs, H p = some (.lst xs) ∧ H q = some (.lst zs) ∧ xs.length + zs.length ≤ sizeLine ∧ ∀ r, H r = none → Q (.ref r) (upd H r (.lst (xs ++ zs))) :=
  propext ⟨fun ⟨l, b, xs, zs, e1, e2, r⟩ => by cases e1; cases e2; exact ⟨xs, zs, r⟩, fun ⟨xs, zs, r⟩ => ⟨p, q, xs, zs, rfl, rfl, r⟩⟩
theorem e_lenV {x : V} : rLenV K [x] H Q = ∃ n, LenV K x H n ∧ Q (.int (n : Nat)) H := propext ⟨fun ⟨x', n, e, r⟩ => by cases e; exact ⟨n, r⟩, fun ⟨n, r⟩ => ⟨x, n, rfl, r⟩⟩
theorem e_lenQ {p : Addr} : rLenQ K [.ref p] H Q = ∃ ys, (SqL K H p ys ∨ SqT K H p ys) ∧ Q (.int ((ys.length : Nat) : Int)) H := propext ⟨fun ⟨x', n, e, r⟩ => by cases e; exact ⟨n, r⟩, fun ⟨n, r⟩ => ⟨p, n, rfl, r⟩⟩
theorem e_K {CX : CXT} {P : Program} {w : World} {mg : Str → Option Value} {base : Heap} {N : List Str} {qual : Str} {scope : Scope} {f : Addr} {cd : Value} {A : Around} {outer : List Env} {s : Shared} {E : XK} : (cxOf CX P w K mg base N qual scope f cd A outer s H E).K = K := rfl
theorem e_noxK {X : Cx} : X.nox.K = X.K := rfl
theorem e_szT {n : Nat} (h : n ≤ 100000) : (n ≤ sizeLine) = True := eq_true (Nat.le_trans h (by decide))
theorem e_szL {n : Nat} (h : n ≤ 100000) : (n < sizeLine) = True := eq_true (Nat.lt_of_le_of_lt h (by decide))
theorem s_seq (h : ts { D with nx := Kt tu D } σ H) : tSeq ts tu D σ H := h
theorem s_next (h : D.nx σ H) : tNext D σ H := h
theorem s_brk (h : D.bk σ H) : tBreak D σ H := h
theorem s_cont (h : D.ct σ H) : tCont D σ H := h
theorem s_drop (h : te σ H (fun _ H1 => D.nx σ H1)) : tDrop te D σ H := h
theorem s_ret (h : te σ H D.rt) : tRet te D σ H := h
theorem s_retN (h : D.rt .non H) : tRetN D σ H := h
theorem s_asg (h : te σ H (fun x H1 => g x σ H1 D.nx)) : tAsg te g D σ H := h
theorem s_if (h : c σ H (fun b H1 => if b = true then ts D σ H1 else tu D σ H1)) : tIfS c ts tu D σ H := h
theorem s_par {i j : Nat} (h : al σ H (fun vs H1 => ∃ v w, vs = [v, w] ∧ D.nx ((σ.set i (some v)).set j (some w)) H1)) : tPar i j al D σ H := h
theorem s_par3 {i j l : Nat} (h : al σ H (fun vs H1 => ∃ u v w, vs = [u, v, w] ∧ D.nx (((σ.set i (some u)).set j (some v)).set l (some w)) H1)) : tPar3 i j l al D σ H := h
theorem s_for (h : wi σ H (fun J H1 => FB J g ts D σ H1)) : tFor wi g ts D σ H := h
theorem s_name {i : Nat} {v : V} (h : RG (σ.set i (some v)) H) : gName i v σ H RG := h
theorem s_gsub {s : TSet} {v : V} (h : ta σ H (fun o H1 => tb σ H1 fun i H2 => s o i v H2 fun H3 => RG σ H3)) : gSub ta tb s v σ H RG := h
theorem s_gnil {xs : List V} (h : (xs = [] ∧ RG σ H)) : gNil xs σ H RG := h
theorem s_c {v : V} (h : Q v H) : tC v σ H Q := h
theorem s_op {r : R2} (h : ta σ H (fun x H1 => tb σ H1 fun y H2 => r x y H2 Q)) : tOp r ta tb σ H Q := h
theorem s_un {r : V → Hp → VK → Prop} (h : ta σ H (fun x H1 => r x H1 Q)) : tUn r ta σ H Q := h
theorem s_nil (h : RL [] H) : tNil σ H RL := h
theorem s_cons (h : te σ H (fun x H1 => al σ H1 fun xs H2 => RL (x :: xs) H2)) : tCons te al σ H RL := h
theorem s_tup (h : al σ H (fun xs H1 => MkT xs H1 Q)) : tTup al σ H Q := h
theorem s_lst (h : al σ H (fun xs H1 => MkL xs H1 Q)) : tLst al σ H Q := h
theorem s_call0 {sp : Sp} {E : XK} (h : al σ H (fun vs H1 => sp vs H1 Q E)) : tCall sp [] E al σ H Q := by
  rw [e_call]
  simp only [List.append_nil]
  exact h
theorem s_call {sp : Sp} {dvs : List V} {E : XK} (h : al σ H (fun vs H1 => sp (vs ++ dvs) H1 Q E)) : tCall sp dvs E al σ H Q := h
theorem s_callN {n m : Nat} {sp : Sp} {gV : List V → List V → List V} {E : XK} (h : al σ H (fun vs H1 => tk σ H1 fun zs H2 => vs.length = n ∧ zs.length = m ∧ sp (gV vs zs) H2 Q E)) : tCallN n m sp gV E al tk σ H Q := h
theorem s_CB {r : List V → Hp → VK → Prop} (h : al σ H (fun vs H1 => r vs H1 Q)) : tCB r al σ H Q := h
theorem s_test (h : te σ H (fun x H1 => ∃ k, x = .bl k ∧ R k H1)) : tTest te σ H R := h
theorem s_B (h : te σ H (fun x H1 => ∃ k, x = .bl k ∧ R k H1)) : tB te σ H R := h
theorem s_and (h : c σ H (fun b H1 => if b = true then t σ H1 R else R false H1)) : tAnd c t σ H R := h
theorem s_or (h : c σ H (fun b H1 => if b = true then R true H1 else t σ H1 R)) : tOr c t σ H R := h
theorem s_not (h : c σ H (fun b H1 => R (!b) H1)) : tNot c σ H R := h
theorem s_andV (h : ta σ H (fun x H1 => ∃ b, x = .bl b ∧ if b = true then tb σ H1 Q else Q (.bl false) H1)) : tAndV ta tb σ H Q := h
theorem s_orV (h : ta σ H (fun x H1 => ∃ b, x = .bl b ∧ if b = true then Q (.bl true) H1 else tb σ H1 Q)) : tOrV ta tb σ H Q := h
theorem s_notV (h : ta σ H (fun x H1 => ∃ b, x = .bl b ∧ Q (.bl (!b)) H1)) : tNotV ta σ H Q := h
theorem s_ifE (h : c σ H (fun b H1 => if b = true then ta σ H1 Q else tb σ H1 Q)) : tIf c ta tb σ H Q := h
theorem s_chain {r r' : R2} (h : ta σ H (fun x H1 => tb σ H1 fun y H2 => r x y H2 fun z H3 => ∃ k, z = .bl k ∧ (if k = true then tc σ H3 fun w' H4 => r' y w' H4 Q else Q (.bl false) H3))) : tChain r r' ta tb tc σ H Q := h
theorem s_sl {r : V → Option Int → Option Int → Hp → VK → Prop} {to1 to2 : TO} (h : te σ H (fun x H1 => to1 σ H1 fun l H2 => to2 σ H2 fun u H3 => r x l u H3 Q)) : tSl r te to1 to2 σ H Q := h
theorem s_nopart (h : RO none H) : tNoPart σ H RO := h
theorem s_part (h : te σ H (fun x H1 => ∃ i, x = .int i ∧ RO (some i) H1)) : tPart te σ H RO := h
theorem s_bm {T : String} {r : V → List V → Hp → VK → Prop} (h : te σ H (fun x H1 => tyV K T x H1 ∧ al σ H1 fun xs H2 => r x xs H2 Q)) : tBM K T r te al σ H Q := h
theorem s_bm0 {T : String} {r : V → List V → Hp → VK → Prop} (h : te σ H (fun x H1 => tyV K T x H1 ∧ r x [] H1 Q)) : tBM0 K T r te σ H Q := h
theorem s_m0 {r : V → List V → Hp → VK → Prop} (h : te σ H (fun x H1 => (∃ a, x = .str a) ∧ r x [] H1 Q)) : tM0 r te σ H Q := h
theorem s_m1 {r : V → List V → Hp → VK → Prop} (h : ta σ H (fun x H1 => (∃ a, x = .str a) ∧ te σ H1 fun y H2 => r x [y] H2 Q)) : tM1 r ta te σ H Q := h
theorem s_fmt (h : te σ H (fun x H1 => (∃ y : Str, x = .str y ∧ y.length ≤ sizeLine ∧ Q (.str y) H1) ∨ ∃ i : Int, x = .int i ∧ i.natAbs.log2 < 1920 ∧ Q (.str (toString i)) H1)) : tFmt te σ H Q := h
theorem s_js0 {acc : Str} {X : Str → Hp → Prop} (h : X acc H) : tJs [] acc σ H X := h
theorem s_js {acc : Str} {X : Str → Hp → Prop} {l : List TE} (h : te σ H (fun x H1 => ∃ y : Str, x = .str y ∧ (acc ++ y).length ≤ sizeLine ∧ tJs l (acc ++ y) σ H1 X)) : tJs (te :: l) acc σ H X := h
theorem s_lc {tt : TT} {vs : List Nat} (h : wi σ H (fun J H1 => ∀ D, H1 D = none → LB J g tt te vs σ D Q H1)) : tLc wi g tt te vs σ H Q := h
theorem s_yes (h : R true H) : tYes σ H R := h
theorem s_iList (h : te σ H (fun x H1 => ∃ a, x = .ref a ∧ (∃ xs, SqL K H1 a xs) ∧ RI (Itl K a) H1)) : iList K te σ H RI := h
theorem s_iTup (h : te σ H (fun x H1 => ∃ a, x = .ref a ∧ (∃ xs, SqT K H1 a xs) ∧ RI (Itt K a) H1)) : iTup K te σ H RI := h
theorem s_iR1 (h : al σ H (fun vs H1 => ∃ j : Int, vs = [.int j] ∧ -(2 ^ 62) ≤ j ∧ j < 2 ^ 62 ∧ RI (Itr 0 j.toNat) H1)) : iRng1 al σ H RI := h
theorem s_iR2 (h : al σ H (fun vs H1 => ∃ i j : Int, vs = [.int i, .int j] ∧ (-(2 ^ 62) ≤ i ∧ i < 2 ^ 62 ∧ -(2 ^ 62) ≤ j ∧ j < 2 ^ 62) ∧ RI (Itr i (j - i).toNat) H1)) : iRng2 al σ H RI := h
theorem s_iStr (h : te σ H (fun v H1 => ∃ x, v = .str x ∧ RI (Its x) H1)) : iStr te σ H RI := h
theorem s_iEnum (h : al σ H (fun vs H1 => ∃ a xs, vs = [.ref a] ∧ SqL K H1 a xs ∧ RI (Ite K a) H1)) : iEnum K al σ H RI := h
theorem s_var {i : Nat} {v : V} (h : σ[i]? = some (some v)) (q : Q v H) : tVar i σ H Q := ⟨v, h, q⟩
theorem s_I0 {f : Int → Int → V} {m n : Int} (q : Q (f m n) H) : rI0 f (.int m) (.int n) H Q := ⟨m, n, rfl, rfl, q⟩
theorem s_U {f : Int → V} {m : Int} (q : Q (f m) H) : rU f (.int m) H Q := ⟨m, rfl, q⟩
theorem s_ex {v : V} {R : V → Prop} (q : R v) : ∃ w, v = w ∧ R w := ⟨v, rfl, q⟩
end

/-! the bag of a law: the script's numbers and four counters; its draws are any numbers in their range -/
def BagO (I : Hp) (o : HO) : Prop := ∃ (l : Addr) (ns : List Int) (i : Nat) (x s c : Int), o = .lst [.ref l, .int i, .int x, .int s, .int c] ∧ I l = some (.lst (ns.map V.int)) ∧ ns.length ≤ 63 ∧ 0 ≤ x ∧ 0 ≤ s ∧ s < 2147483629
theorem BagO.mono {I J : Hp} {o : HO} (h : BagO I o) (e : Same I J) : BagO J o := by
  obtain ⟨l, ns, i, x, s, c, e1, e2, r⟩ := h
  exact ⟨l, ns, i, x, s, c, e1, e _ _ e2, r⟩
/-- which tables of code objects are told of: the name that their code objects have -/
class TabNm where
  nm : Addr → Option Str
variable [TabNm]
/-- the table at P: its code objects stand in I -/
structure TabI (I H : Hp) (P : Addr) (q : Str) : Prop where
  out : I P = none
  tab : ∃ ps : Array Value, H P = some (.tbl ps) ∧ PySem.TriplesOk ps.toList ∧ ∀ (pos : Pos) (cv : Value), PySem.codeAmong pos ps.toList = some cv → ∃ c, cv = .ref c ∧ I c = some (LamX.CodeO c q)
theorem TabI.pu {P : Addr} {q : Str} {I H I' H' : Hp} (t : TabI I H P q) (p : Pu I H I' H') : TabI I' H' P q := by
  obtain ⟨ps, h, a, r⟩ := t.tab
  refine ⟨p.fr P t.out (by rw [h]; exact fun z => by cases z), ps, p.sm P _ h, a, fun pos cv hc => ?_⟩
  obtain ⟨c, e1, e2⟩ := r pos cv hc
  exact ⟨c, e1, p.im _ _ e2⟩
structure W (b : Addr) (I H : Hp) : Prop where
  ok : Same I H
  nb : I b = none
  bag : ∃ o, H b = some o ∧ BagO I o
  tb : ∀ P q, TabNm.nm P = some q → TabI I H P q
theorem W.hb {b : Addr} {I H : Hp} (w : W b I H) : H b ≠ none := by
  obtain ⟨o, h, _⟩ := w.bag
  rw [h]; exact fun z => by cases z
theorem W.upd {b : Addr} {I H : Hp} {o : HO} (w : W b I H) (h : BagO I o) : W b I (L2.upd H b o) :=
  ⟨fun a u e => by
    have : a ≠ b := fun z => by rw [z, w.nb] at e; cases e
    rw [upd_ne this]; exact w.ok a u e, w.nb, ⟨o, upd_same, h⟩, fun P q hq => by
      obtain ⟨ps, hp, r⟩ := (w.tb P q hq).tab
      obtain ⟨o0, hb0, l, ns, i, x, s, c, e, _⟩ := w.bag
      have nb : P ≠ b := fun z => by rw [z, hb0, e] at hp; cases hp
      exact ⟨(w.tb P q hq).out, ps, by rw [upd_ne nb]; exact hp, r⟩⟩
/-- behind a call that writes nothing that stood -/
theorem W.pu {b : Addr} {I H I' H' : Hp} (w : W b I H) (p : Pu I H I' H') : W b I' H' := by
  obtain ⟨o, h, r⟩ := w.bag
  exact ⟨p.ok, p.fr b w.nb (by rw [h]; exact fun z => by cases z), ⟨o, p.sm b o h, r.mono p.im⟩, fun P q hq => (w.tb P q hq).pu p⟩
theorem W.new {b : Addr} {I H : Hp} {p : Addr} {o : HO} (w : W b I H) (hp : H p = none) : W b (L2.upd I p o) (L2.upd H p o) := w.pu (Pu.new w.ok hp)
theorem W.newM {b : Addr} {I H : Hp} {p : Addr} {o : HO} (w : W b I H) (hp : H p = none) : W b I (L2.upd H p o) := w.pu (Pu.newM w.ok hp)
theorem W.same {b : Addr} {I H H' : Hp} (w : W b I H) (e : Same H H') : W b I H' := w.pu ⟨⟨fun _ _ e => e, fun a u q => e a u (w.ok a u q), fun _ e _ => e⟩, e⟩
theorem upd_self {H : Hp} {a : Addr} {o : HO} (h : H a = some o) : L2.upd H a o = H := by
  funext b
  unfold L2.upd
  split
  · rename_i e; rw [e, h]
  · rfl
/-- a draw's promise -/
def sp_l_draw : Sp := fun vs H Q _ => ∃ b m I, vs = [.ref b, .int m] ∧ 0 < m ∧ m.natAbs.log2 < 9000 ∧ W b I H ∧ ∀ (n : Int) o, 0 ≤ n → n < m → BagO I o → Q (.int n) (L2.upd H b o)
def sp_l_bag (K : Fr) : Sp := fun vs H Q _ => ∃ (a : Addr) (ns : List Int), vs = [.ref a] ∧ SqL K H a (ns.map V.int) ∧ ns.length ≤ 63 ∧ (∀ P q, TabNm.nm P = some q → H P = some (.tbl #[])) ∧ ∀ b I' H', LamX.ExtN H I' → W b I' H' → H b = none → Q (.ref b) H'
def noTab (H : Hp) : Hp := fun a => match H a with
  | some (.tbl _) => none
  | o => o
theorem noTab_of {H : Hp} {a : Addr} {o : HO} (h : H a = some o) (n : ∀ ps, o ≠ .tbl ps) : noTab H a = some o := by
  unfold noTab
  rw [h]
  cases o <;> first | rfl | exact absurd rfl (n _)
theorem noTab_sub {H : Hp} : Same (noTab H) H := fun a o h => by
  unfold noTab at h
  split at h
  · cases h
  · exact h
theorem noTab_none {H : Hp} {a : Addr} (h : H a = none) : noTab H a = none := by
  unfold noTab
  rw [h]
theorem noTab_tbl {H : Hp} {a : Addr} {ps : Array Value} (h : H a = some (.tbl ps)) : noTab H a = none := by
  unfold noTab
  rw [h]

/-- the same promises, for use: the heap behind is any that agrees but for the bag -/
def But (b : Addr) (H H' : Hp) : Prop := ∀ a, a ≠ b → H' a = H a
theorem But.upd {b : Addr} {H : Hp} {o : HO} : But b H (L2.upd H b o) := fun a h => upd_ne h
theorem But.trans {b : Addr} {H H1 H2 : Hp} (x : But b H H1) (y : But b H1 H2) : But b H H2 := fun a h => (y a h).trans (x a h)
theorem But.refl (b : Addr) (H : Hp) : But b H H := fun _ _ => rfl
def sp_l_any (K : Fr) : Sp := fun vs H Q _ => ∃ (b : Addr) (I : Hp), W b I H ∧ ((∃ (t : Addr) (xs : List V), vs = [.ref b, .ref t] ∧ (SqL K I t xs ∨ SqT K I t xs) ∧ 0 < xs.length ∧ xs.length ≤ 100000 ∧ ∀ (j : Nat) x o, xs[j]? = some x → BagO I o → Q x (L2.upd H b o)) ∨
  ∃ (z : Str), vs = [.ref b, .str z] ∧ 0 < z.length ∧ z.length ≤ 100000 ∧ ∀ (j : Nat) c o, z.cps.toList[j]? = some c → BagO I o → Q (.str ⟨#[c]⟩) (L2.upd H b o))
theorem e_lenR {K : Fr} {H : Hp} {p : Addr} {n : Nat} : LenV K (.ref p) H n = ((∃ xs, SqL K H p xs ∧ n = xs.length) ∨ ∃ xs, SqT K H p xs ∧ n = xs.length) := rfl
theorem e_lenS {K : Fr} {H : Hp} {y : Str} {n : Nat} : LenV K (.str y) H n = (y.length ≤ sizeLine ∧ n = y.length) := rfl
theorem lgLen {n : Nat} (h : n ≤ 100000) : (n : Int).natAbs.log2 < 9000 := by
  have h1 : (n : Int).natAbs < 2 ^ 20 := by rw [Int.natAbs_natCast]; omega
  exact Nat.lt_trans (lg_lt h1 (by decide)) (by decide)
theorem w_ixA {K : Fr} {H : Hp} {Q : VK} {p : Addr} {m : Int} {xs : List V} {x : V} (h : SqL K H p xs ∨ SqT K H p xs) (e : atI xs m = some x) (q : Q x H) : rIx K (.ref p) (.int m) H Q := by
  rcases h with h | h
  · exact .inl ⟨p, xs, m, x, rfl, rfl, h, e, q⟩
  · exact .inr (.inl ⟨p, xs, m, x, rfl, rfl, h, e, q⟩)
theorem w_ixAS {K : Fr} {H : Hp} {Q : VK} {m : Int} {z : Str} {c : Nat} (hz : z.length ≤ sizeLine) (e : atI z.cps.toList m = some c) (q : Q (.str ⟨#[c]⟩) H) : rIx K (.str z) (.int m) H Q := .inr (.inr ⟨z, m, c, rfl, rfl, hz, e, q⟩)
theorem seqA {K : Fr} {H H' : Hp} {p : Addr} {xs : List V} (s : Same H H') (h : SqL K H p xs ∨ SqT K H p xs) : SqL K H' p xs ∨ SqT K H' p xs := h.imp (fun h => s.seq h) (fun h => seqT s h)
theorem natGet {α : Type} {xs : List α} {n : Int} (h0 : 0 ≤ n) (h1 : n < xs.length) : ∃ x, xs[n.toNat]? = some x ∧ atI xs n = some x := by
  obtain ⟨k, rfl⟩ : ∃ k : Nat, n = (k : Int) := ⟨n.toNat, by omega⟩
  have h : k < xs.length := by omega
  exact ⟨xs[k], by rw [Int.toNat_natCast]; exact List.getElem?_eq_getElem h, atI_nat (List.getElem?_eq_getElem h)⟩

theorem w_mkT {K : Fr} {b : Addr} {I H : Hp} {xs : List V} {ds : List PyData} {Q : VK} (w : W b I H) (hl : xs.length ≤ 100000) (d : DpAll K I xs ds) (k : ∀ v I' H', W b I' H' → Same I I' → Dp K I' v (.tuple ds) → Q v H') : MkT xs H Q :=
  ⟨szle hl, fun _ hp => k _ _ _ (w.new hp) (sameUpd w.ok hp) (dpNewT (dpmA d (sameUpd w.ok hp)))⟩
theorem w_mkL {K : Fr} {b : Addr} {I H : Hp} {xs : List V} {ds : List PyData} {Q : VK} (w : W b I H) (hl : xs.length ≤ 100000) (d : DpAll K I xs ds) (k : ∀ v I' H', W b I' H' → Same I I' → Dp K I' v (.list ds) → Q v H') : MkL xs H Q :=
  ⟨szle hl, fun _ hp => k _ _ _ (w.new hp) (sameUpd w.ok hp) (dpNewL (dpmA d (sameUpd w.ok hp)))⟩
theorem w_mkL2 {K : Fr} {b : Addr} {I H : Hp} {xs : List V} {ds : List PyData} {Q : VK} (w : W b I H) (hl : xs.length ≤ 100000) (d : DpAll K I xs ds) (k : ∀ p I' H', W b I' H' → Same I I' → I' p = some (.lst xs) → Dp K I' (.ref p) (.list ds) → Q (.ref p) H') : MkL xs H Q :=
  ⟨szle hl, fun _ hp => k _ _ _ (w.new hp) (sameUpd w.ok hp) upd_same (dpNewL (dpmA d (sameUpd w.ok hp)))⟩
theorem w_catD {K : Fr} {b : Addr} {I H : Hp} {p q : Addr} {xs ys : List V} {ds es : List PyData} {Q : VK} (w : W b I H) (hp : I p = some (.lst xs)) (hq : I q = some (.lst ys)) (hl : xs.length + ys.length ≤ 100000) (d : DpAll K I xs ds) (e : DpAll K I ys es)
    (k : ∀ r I' H', W b I' H' → Same I I' → I' r = some (.lst (xs ++ ys)) → Dp K I' (.ref r) (.list (ds ++ es)) → Q (.ref r) H') : rCat (.ref p) (.ref q) H Q :=
  ⟨p, q, xs, ys, rfl, rfl, w.ok _ _ hp, w.ok _ _ hq, szle hl, fun _ hr => k _ _ _ (w.new hr) (sameUpd w.ok hr) upd_same (dpNewL (dpmA (dpAppend d e) (sameUpd w.ok hr)))⟩
/-- a tuple's and a list's data, taken apart -/
theorem dpTup {K : Fr} {I : Hp} {v : V} {ds : List PyData} (h : Dp K I v (.tuple ds)) : ∃ p xs, v = .ref p ∧ SqT K I p xs ∧ DpAll K I xs ds := by
  cases h with
  | tup a b => exact ⟨_, _, rfl, a, b⟩
theorem dpLst {K : Fr} {I : Hp} {v : V} {ds : List PyData} (h : Dp K I v (.list ds)) : ∃ p xs, v = .ref p ∧ SqL K I p xs ∧ DpAll K I xs ds := by
  cases h with
  | lst a b => exact ⟨_, _, rfl, a, b⟩
theorem dpIntI {K : Fr} {I : Hp} {v : V} {n : Int} (h : Dp K I v (.int n)) : v = .int n := by cases h; rfl
theorem dpStrI {K : Fr} {I : Hp} {v : V} {n : Str} (h : Dp K I v (.str n)) : v = .str n := by cases h; rfl
theorem dpBlI {K : Fr} {I : Hp} {v : V} {n : Bool} (h : Dp K I v (.bool n)) : v = .bl n := by cases h; rfl
theorem w_anyD {K : Fr} {b : Addr} {I H : Hp} {v : V} {ds : List PyData} {Q : VK} {E : XK} (w : W b I H) (d : Dp K I v (.list ds) ∨ Dp K I v (.tuple ds)) (h0 : 0 < ds.length) (h1 : ds.length ≤ 100000) (k : ∀ (j : Nat) x d H', ds[j]? = some d → Dp K I x d → W b I H' → But b H H' → Q x H') : sp_l_any K [.ref b, v] H Q E := by
  rcases d with d | d
  · obtain ⟨p, xs, rfl, hs, ha⟩ := dpLst d
    have l := dpLen ha
    refine ⟨b, I, w, .inl ⟨p, xs, rfl, .inl hs, by omega, by omega, fun j x o e ho => ?_⟩⟩
    obtain ⟨d, e1, e2⟩ := dpGetV ha e
    exact k j x d _ e1 e2 (w.upd ho) fun a h => upd_ne h
  · obtain ⟨p, xs, rfl, hs, ha⟩ := dpTup d
    have l := dpLen ha
    refine ⟨b, I, w, .inl ⟨p, xs, rfl, .inr hs, by omega, by omega, fun j x o e ho => ?_⟩⟩
    obtain ⟨d, e1, e2⟩ := dpGetV ha e
    exact k j x d _ e1 e2 (w.upd ho) fun a h => upd_ne h
theorem w_draw {b : Addr} {I H : Hp} {m : Int} {Q : VK} {E : XK} (w : W b I H) (hm : 0 < m) (hm2 : m.natAbs.log2 < 9000) (k : ∀ (n : Int) H', 0 ≤ n → n < m → W b I H' → But b H H' → Q (.int n) H') : sp_l_draw [.ref b, .int m] H Q E :=
  ⟨b, m, I, rfl, hm, hm2, w, fun n o n0 n1 ho => k n _ n0 n1 (w.upd ho) But.upd⟩
theorem w_drawN {b : Addr} {I H : Hp} {m : Nat} {Q : VK} {E : XK} (w : W b I H) (hm : 0 < m) (hm2 : m ≤ 100000) (k : ∀ (n : Nat) H', n < m → W b I H' → But b H H' → Q (.int n) H') : sp_l_draw [.ref b, .int m] H Q E :=
  ⟨b, m, I, rfl, by omega, lgLen hm2, w, fun n o n0 n1 ho => by
    obtain ⟨j, rfl⟩ : ∃ j : Nat, n = (j : Int) := ⟨n.toNat, by omega⟩
    exact k j _ (by omega) (w.upd ho) But.upd⟩
theorem w_anyL {K : Fr} {b t : Addr} {I H : Hp} {xs : List V} {Q : VK} {E : XK} (w : W b I H) (hx : SqL K I t xs ∨ SqT K I t xs) (h0 : 0 < xs.length) (h1 : xs.length ≤ 100000) (k : ∀ (j : Nat) x H', xs[j]? = some x → W b I H' → But b H H' → Q x H') : sp_l_any K [.ref b, .ref t] H Q E :=
  ⟨b, I, w, .inl ⟨t, xs, rfl, hx, h0, h1, fun j x o e ho => k j x _ e (w.upd ho) But.upd⟩⟩
theorem w_anyS {K : Fr} {b : Addr} {I H : Hp} {z : Str} {Q : VK} {E : XK} (w : W b I H) (h0 : 0 < z.length) (h1 : z.length ≤ 100000) (k : ∀ (j : Nat) c H', z.cps.toList[j]? = some c → W b I H' → But b H H' → Q (.str ⟨#[c]⟩) H') : sp_l_any K [.ref b, .str z] H Q E :=
  ⟨b, I, w, .inr ⟨z, rfl, h0, h1, fun j c o e ho => k j c _ e (w.upd ho) But.upd⟩⟩

theorem kitIsK {K : Fr} {d : PyData} {c : String} (h : c = "dict" ∨ c = "list" ∨ c = "tuple" ∨ c = "bool" ∨ c = "int" ∨ c = "str") : PySem.W.kitOne K (.type (tyD d)) (.type c) = some (isB c d) := kit_ty (kitIs h)
theorem w_isiT {K : Fr} {H : Hp} {v : V} {d : PyData} {p : Addr} {Q : VK} (h : Dp K H v d) (hp : H p = some (.tup [.ty "list", .ty "tuple"])) (q : Q (.bl (isB "list" d || isB "tuple" d)) H) : rIsiT K [v, .ref p] H Q := by
  refine ⟨v, p, _, _, [.type "list", .type "tuple"], _, rfl, hp, .cons (.ty _) (.cons (.ty _) .nil), tyx h, ?_, q⟩
  refine kitAny_cons (kitIsK (by simp)) (fun e => ?_) (fun e => by rw [e]; rfl)
  refine kitAny_cons (kitIsK (by simp)) (fun e2 => ?_) (fun e2 => by rw [e2, Bool.or_true])
  rw [e, e2]
  exact kitAny_nil
/-- data of at most so many levels -/
def lkd : Nat → PyData → Bool
  | _, .none => true
  | _, .bool _ => true
  | _, .int _ => true
  | _, .str _ => true
  | 0, .list _ => false
  | 0, .tuple _ => false
  | n + 1, .list ds => decide (ds.length ≤ 1000) && ds.all (lkd n)
  | n + 1, .tuple ds => decide (ds.length ≤ 1000) && ds.all (lkd n)
  | _, .dict _ => false
def sp_l_like (K : Fr) (n : Nat) : Sp := fun vs H Q _ => ∃ v w d, vs = [v, w] ∧ Dp K H v d ∧ Dp K H w d ∧ lkd n d = true ∧ ∀ H', Same H H' → Q (.bl true) H'
theorem w_like {K : Fr} {b : Addr} {I H : Hp} {n : Nat} {v u : V} {Q : VK} {E : XK} (w : W b I H) (d : PyData) (h1 : Dp K I v d) (h2 : Dp K I u d) (hd : lkd n d = true) (k : ∀ H', W b I H' → Same H H' → Q (.bl true) H') : sp_l_like K n [v, u] H Q E :=
  ⟨v, u, d, rfl, dpm h1 w.ok, dpm h2 w.ok, hd, fun H' s => k H' (w.same s) s⟩
def sp_never : Sp := fun _ _ _ _ => False
def sp_l_likeP (K : Fr) : Nat → Sp
  | 0 => sp_never
  | n + 1 => sp_l_like K n
theorem fn_never {P : Program} {w : World} {K : Fr} {mg : Str → Option Value} {base : Heap} {CX : CXT} {k : Nat} {f : Addr} {fd : FuncData} {ps : List Str} : FnOk P w K mg base CX k f fd ps sp_never :=
  ⟨fun _ _ _ _ h => h.elim, fun _ _ _ _ _ _ _ _ _ _ _ _ _ h => h.elim⟩

/-- a tuple that the top has written -/
def TupK (K : Fr) (a : Addr) (xs : List V) : Prop := ∃ (o : Obj) (its : Array Value) (n : Nat), K.lookup a = some o ∧ o.cls = .type "tuple" ∧ o.data = .seq its n ∧ its.size ≤ sizeLine ∧ Vals xs its.toList
theorem TupK.at {K : Fr} {a : Addr} {xs : List V} (h : TupK K a xs) (H : Hp) : SqT K H a xs := .inr h
/-- a law's promise -/
def spLaw (K : Fr) : Sp := fun vs H Q _ => ∃ (a : Addr) (ns : List Int), vs = [.ref a] ∧ SqL K H a (ns.map V.int) ∧ ns.length ≤ 63 ∧ (∀ P q, TabNm.nm P = some q → H P = some (.tbl #[])) ∧ ∀ H', Q (.bl true) H'
end G

set_option Elab.async false
set_option linter.all false
namespace G
/-! words by their letters' numbers: opposites, reduced words (core Lean, no program in sight) -/
def isL (c : Nat) : Bool := (97 ≤ c && c ≤ 100) || (65 ≤ c && c ≤ 68)
def opN (c : Nat) : Nat := if 97 ≤ c ∧ c ≤ 100 then c - 32 else if 65 ≤ c ∧ c ≤ 68 then c + 32 else c
def bad (l : List Nat) : Option Nat := l.findIdx? fun c => !isL c
theorem bad_at {l : List Nat} {i c : Nat} (hi : l[i]? = some c) (hc : isL c = false) (hg : ∀ j c, j < i → l[j]? = some c → isL c = true) : bad l = some i := by
  unfold bad
  obtain ⟨h, e⟩ := List.getElem?_eq_some_iff.mp hi
  rw [List.findIdx?_eq_some_iff_getElem]
  refine ⟨h, by rw [e, hc]; rfl, fun j hj => ?_⟩
  have := hg j l[j] hj (List.getElem?_eq_getElem _)
  rw [this]
  exact fun z => Bool.noConfusion z
theorem bad_no {l : List Nat} (hg : ∀ j c, j < l.length → l[j]? = some c → isL c = true) : bad l = none := by
  unfold bad
  rw [List.findIdx?_eq_none_iff]
  intro x hx
  obtain ⟨j, hj, e⟩ := List.mem_iff_getElem.mp hx
  have := hg j x hj (by rw [← e]; exact List.getElem?_eq_getElem hj)
  rw [this]
  rfl
/-- all letters -/
def AL (l : List Nat) : Prop := ∀ c ∈ l, isL c = true
theorem bad_none {l : List Nat} : bad l = none ↔ AL l := by
  unfold bad AL
  rw [List.findIdx?_eq_none_iff]
  simp
theorem AL.app {a b : List Nat} (h : AL a) (k : AL b) : AL (a ++ b) := fun c hc => (List.mem_append.mp hc).elim (h c) (k c)
theorem AL.left {a b : List Nat} (h : AL (a ++ b)) : AL a := fun c hc => h c (List.mem_append_left _ hc)
theorem AL.right {a b : List Nat} (h : AL (a ++ b)) : AL b := fun c hc => h c (List.mem_append_right _ hc)
theorem AL.nil : AL [] := fun c hc => by cases hc
theorem AL.cons {c : Nat} {l : List Nat} (h : isL c = true) (k : AL l) : AL (c :: l) := fun d hd => by
  rcases List.mem_cons.mp hd with rfl | hd
  · exact h
  · exact k d hd
theorem AL.take {a : List Nat} (h : AL a) (n : Nat) : AL (a.take n) := fun c hc => h c (List.mem_of_mem_take hc)
theorem AL.drop {a : List Nat} (h : AL a) (n : Nat) : AL (a.drop n) := fun c hc => h c (List.mem_of_mem_drop hc)
theorem AL.rev {a : List Nat} (h : AL a) : AL a.reverse := fun c hc => h c (List.mem_reverse.mp hc)
theorem bad_app {a b : List Nat} {c : Nat} (h : AL a) (hc : isL c = false) : bad (a ++ c :: b) = some a.length := by
  refine bad_at (c := c) (by simp) hc fun j d hj hd => ?_
  rw [List.getElem?_append_left hj] at hd
  exact h d (List.mem_of_getElem? hd)
theorem opop (c : Nat) : opN (opN c) = c := by
  unfold opN
  by_cases h1 : 97 ≤ c ∧ c ≤ 100
  · rw [if_pos h1, if_neg (by omega), if_pos (by omega)]; omega
  · rw [if_neg h1]
    by_cases h2 : 65 ≤ c ∧ c ≤ 68
    · rw [if_pos h2, if_pos (by omega)]; omega
    · rw [if_neg h2, if_neg h1, if_neg h2]
theorem isL_op {c : Nat} (h : isL c = true) : isL (opN c) = true := by
  unfold isL at *
  unfold opN
  simp only [Bool.or_eq_true, Bool.and_eq_true, decide_eq_true_eq] at *
  split
  · omega
  · split <;> omega
theorem op_ne {c : Nat} (h : isL c = true) : opN c ≠ c := by
  unfold isL at h
  unfold opN
  simp only [Bool.or_eq_true, Bool.and_eq_true, decide_eq_true_eq] at h
  split
  · omega
  · split <;> omega
theorem op_inj {a b : Nat} (h : opN a = opN b) : a = b := by rw [← opop a, h, opop]
def inv (l : List Nat) : List Nat := l.reverse.map opN
theorem inv_inv (l : List Nat) : inv (inv l) = l := by
  unfold inv
  rw [← List.map_reverse, List.reverse_reverse, List.map_map]
  have : opN ∘ opN = id := funext opop
  rw [this, List.map_id]
theorem inv_app (a b : List Nat) : inv (a ++ b) = inv b ++ inv a := by unfold inv; rw [List.reverse_append, List.map_append]
theorem inv_nil : inv [] = [] := rfl
theorem inv_cons (c : Nat) (l : List Nat) : inv (c :: l) = inv l ++ [opN c] := by unfold inv; rw [List.reverse_cons, List.map_append]; rfl
theorem inv_snoc (c : Nat) (l : List Nat) : inv (l ++ [c]) = opN c :: inv l := by rw [inv_app]; rfl
theorem inv_len (l : List Nat) : (inv l).length = l.length := by unfold inv; rw [List.length_map, List.length_reverse]
theorem AL.inv {l : List Nat} (h : AL l) : AL (inv l) := fun c hc => by
  unfold G.inv at hc
  obtain ⟨d, hd, rfl⟩ := List.mem_map.mp hc
  exact isL_op (h d (List.mem_reverse.mp hd))
/-- the stack of letters kept, the last one first -/
def push (s : List Nat) (c : Nat) : List Nat := match s with
  | [] => [c]
  | d :: t => if d = opN c then t else c :: d :: t
def act (s l : List Nat) : List Nat := l.foldl push s
def red (l : List Nat) : List Nat := (act [] l).reverse
/-- reduced -/
def Rd : List Nat → Prop
  | [] => True
  | [_] => True
  | a :: b :: l => a ≠ opN b ∧ Rd (b :: l)
theorem Rd.tail {a : Nat} {l : List Nat} (h : Rd (a :: l)) : Rd l := by
  cases l with
  | nil => trivial
  | cons b l => exact h.2
theorem act_nil (s : List Nat) : act s [] = s := rfl
theorem act_cons (s : List Nat) (c : Nat) (l : List Nat) : act s (c :: l) = act (push s c) l := rfl
theorem act_app (s a b : List Nat) : act s (a ++ b) = act (act s a) b := List.foldl_append
theorem act_snoc (s a : List Nat) (c : Nat) : act s (a ++ [c]) = push (act s a) c := act_app s a [c]
theorem push_rd {s : List Nat} (h : Rd s) (c : Nat) : Rd (push s c) := by
  unfold push
  match s, h with
  | [], _ => trivial
  | d :: t, h =>
    show Rd (if d = opN c then t else c :: d :: t)
    split
    · exact h.tail
    · rename_i n
      exact ⟨fun e => n (by rw [e, opop]), h⟩
theorem act_rd {s : List Nat} (h : Rd s) (l : List Nat) : Rd (act s l) := by
  induction l generalizing s with
  | nil => exact h
  | cons c l ih => exact ih (push_rd h c)
theorem push_push {s : List Nat} (h : Rd s) (c : Nat) : push (push s c) (opN c) = s := by
  match s, h with
  | [], _ => show (if c = opN (opN c) then [] else _) = _; rw [if_pos (opop c).symm]
  | d :: t, h =>
    show push (if d = opN c then t else c :: d :: t) (opN c) = _
    by_cases e : d = opN c
    · rw [if_pos e]
      match t, h with
      | [], _ => show [opN c] = _; rw [e]
      | b :: u, h =>
        show (if b = opN (opN c) then u else opN c :: b :: u) = _
        rw [opop, if_neg (fun z => h.1 (by rw [z]; exact e)), e]
    · rw [if_neg e]
      show (if c = opN (opN c) then d :: t else _) = _
      rw [if_pos (opop c).symm]
theorem push_push' {s : List Nat} (h : Rd s) (c : Nat) : push (push s (opN c)) c = s := by
  have := push_push h (opN c)
  rwa [opop] at this
theorem red_nil : red [] = [] := rfl
theorem red_stack (l : List Nat) : act [] l = (red l).reverse := by unfold red; rw [List.reverse_reverse]
/-- the two cases of one letter more -/
theorem red_snoc (l : List Nat) (c : Nat) : (∃ t, red l = t ++ [opN c] ∧ red (l ++ [c]) = t) ∨ ((∀ t, red l ≠ t ++ [opN c]) ∧ red (l ++ [c]) = red l ++ [c]) := by
  unfold red
  rw [act_snoc]
  cases e : act [] l with
  | nil => exact .inr ⟨fun t z => by simp at z, rfl⟩
  | cons d t =>
    by_cases h : d = opN c
    · refine .inl ⟨t.reverse, by rw [List.reverse_cons, h], ?_⟩
      show (if d = opN c then t else _).reverse = _
      rw [if_pos h]
    · refine .inr ⟨fun t' z => ?_, ?_⟩
      · rw [List.reverse_cons] at z
        have := List.append_inj_right' z rfl
        simp at this
        exact h this
      · show (if d = opN c then t else c :: d :: t).reverse = _
        rw [if_neg h, List.reverse_cons]
theorem snocRec {P : List Nat → Prop} (h0 : P []) (h1 : ∀ l c, P l → P (l ++ [c])) (l : List Nat) : P l := by
  have : ∀ m : List Nat, P m.reverse := fun m => by
    induction m with
    | nil => exact h0
    | cons c m ih => rw [List.reverse_cons]; exact h1 _ c ih
  have h := this l.reverse
  rwa [List.reverse_reverse] at h
theorem act_red {s : List Nat} (h : Rd s) (l : List Nat) : act s (red l) = act s l := by
  induction l using snocRec with
  | h0 => rfl
  | h1 l c ih =>
    rw [act_snoc, ← ih]
    rcases red_snoc l c with ⟨t, e1, e2⟩ | ⟨_, e2⟩
    · rw [e1, e2, act_snoc, push_push' (act_rd h t)]
    · rw [e2, act_snoc]
theorem act_inv_red {s : List Nat} (h : Rd s) (l : List Nat) : act s (inv (red l)) = act s (inv l) := by
  induction l using snocRec generalizing s with
  | h0 => rfl
  | h1 l c ih =>
    rw [inv_snoc, act_cons, ← ih (push_rd h _)]
    rcases red_snoc l c with ⟨t, e1, e2⟩ | ⟨_, e2⟩
    · rw [e1, e2, inv_snoc, opop, act_cons, push_push' h]
    · rw [e2, inv_snoc, act_cons]
theorem act_inv {s : List Nat} (h : Rd s) (l : List Nat) : act (act s l) (inv l) = s := by
  induction l generalizing s with
  | nil => rfl
  | cons c l ih =>
    rw [inv_cons, act_snoc, act_cons, ih (push_rd h c), push_push h]
theorem rd_nil : Rd [] := trivial
theorem red_appL (a b : List Nat) : red (red a ++ b) = red (a ++ b) := by
  show (act [] (red a ++ b)).reverse = (act [] (a ++ b)).reverse
  rw [act_app, act_app, act_red rd_nil]
theorem red_appR (a b : List Nat) : red (a ++ red b) = red (a ++ b) := by
  show (act [] (a ++ red b)).reverse = (act [] (a ++ b)).reverse
  rw [act_app, act_app, act_red (act_rd rd_nil a)]
theorem red_red (a : List Nat) : red (red a) = red a := by
  have := red_appL a []
  rwa [List.append_nil, List.append_nil] at this
/-- reduced is the same from both ends -/
theorem Rd.split : ∀ {a : List Nat} {x y : Nat} {b : List Nat}, Rd (a ++ x :: y :: b) → x ≠ opN y
  | [], _, _, _, h => h.1
  | _ :: a, _, _, _, h => Rd.split (a := a) h.tail
theorem rd_of : ∀ {l : List Nat}, (∀ a x y b, l = a ++ x :: y :: b → x ≠ opN y) → Rd l
  | [], _ => trivial
  | [_], _ => trivial
  | p :: q :: l, h => ⟨h [] p q l rfl, rd_of fun a x y b e => h (p :: a) x y b (by rw [e]; rfl)⟩
theorem Rd.rev {l : List Nat} (h : Rd l) : Rd l.reverse := rd_of fun a x y b e => by
  have e2 : l = b.reverse ++ y :: x :: a.reverse := by
    have := congrArg List.reverse e
    rw [List.reverse_reverse] at this
    rw [this]
    simp
  rw [e2] at h
  intro z
  exact h.split (by rw [z, opop])
theorem Rd.inv {l : List Nat} (h : Rd l) : Rd (inv l) := rd_of fun a x y b e => by
  have e2 : l = G.inv b ++ opN y :: opN x :: G.inv a := by
    have := congrArg G.inv e
    rw [inv_inv] at this
    rw [this, inv_app, inv_cons, inv_cons]
    simp
  rw [e2] at h
  intro z
  have := h.split
  rw [opop] at this
  exact this z.symm
theorem Rd.left {a b : List Nat} (h : Rd (a ++ b)) : Rd a := rd_of fun p x y q e => by
  rw [e, List.append_assoc] at h
  exact h.split
theorem Rd.right : ∀ {a b : List Nat}, Rd (a ++ b) → Rd b
  | [], _, h => h
  | _ :: a, _, h => Rd.right (a := a) h.tail
theorem red_rd (l : List Nat) : Rd (red l) := (act_rd rd_nil l).rev
theorem red_of {l : List Nat} (h : Rd l) : red l = l := by
  induction l using snocRec with
  | h0 => rfl
  | h1 l c ih =>
    have e := ih h.left
    rcases red_snoc l c with ⟨t, e1, _⟩ | ⟨_, e2⟩
    · rw [e] at e1
      rw [e1, List.append_assoc] at h
      have := h.split
      exact absurd rfl this
    · rw [e2, e]
theorem red_inv (l : List Nat) : red (inv l) = inv (red l) := by
  rw [← red_of (red_rd l).inv]
  unfold red
  rw [← act_inv_red rd_nil l]
  rfl
theorem red_cancel (a : List Nat) : red (a ++ inv a) = [] := by
  unfold red
  rw [act_app, act_inv rd_nil]
  rfl
theorem red_cancel' (a : List Nat) : red (inv a ++ a) = [] := by
  have := red_cancel (inv a)
  rwa [inv_inv] at this
theorem red_mid (a b c : List Nat) : red (a ++ red b ++ c) = red (a ++ b ++ c) := by
  rw [← red_appL (a ++ red b), red_appR, red_appL]
theorem red_len (l : List Nat) : (red l).length ≤ l.length := by
  induction l using snocRec with
  | h0 => exact Nat.le_refl _
  | h1 l c ih =>
    rw [List.length_append]
    rcases red_snoc l c with ⟨t, e1, e2⟩ | ⟨_, e2⟩
    · rw [e2]
      rw [e1, List.length_append] at ih
      simp at *
      omega
    · rw [e2, List.length_append]
      simp at *
      omega
theorem red_mem {l : List Nat} : ∀ {c : Nat}, c ∈ red l → c ∈ l := by
  induction l using snocRec with
  | h0 => intro c h; exact h
  | h1 l d ih =>
    intro c h
    rcases red_snoc l d with ⟨t, e1, e2⟩ | ⟨_, e2⟩
    · rw [e2] at h
      exact List.mem_append_left _ (ih (by rw [e1]; exact List.mem_append_left _ h))
    · rw [e2] at h
      rcases List.mem_append.mp h with h | h
      · exact List.mem_append_left _ (ih h)
      · exact List.mem_append_right _ h
theorem AL.red {l : List Nat} (h : AL l) : AL (red l) := fun c hc => h c (red_mem hc)
theorem red_pop {l t : List Nat} {c : Nat} (h : red l = t ++ [opN c]) : red (l ++ [c]) = t := by
  rcases red_snoc l c with ⟨t', e1, e2⟩ | ⟨n, _⟩
  · rw [e1] at h
    rw [e2, List.append_cancel_right h]
  · exact absurd h (n t)
theorem red_put {l : List Nat} {c : Nat} (h : ∀ t, red l ≠ t ++ [opN c]) : red (l ++ [c]) = red l ++ [c] := by
  rcases red_snoc l c with ⟨t', e1, e2⟩ | ⟨_, e⟩
  · exact absurd e1 (h t')
  · exact e
theorem snocCases (l : List Nat) : l = [] ∨ ∃ t c, l = t ++ [c] := by
  induction l using snocRec with
  | h0 => exact .inl rfl
  | h1 l c _ => exact .inr ⟨l, c, rfl⟩
theorem take_snoc {α : Type} {l : List α} {i : Nat} {c : α} (h : l[i]? = some c) : l.take (i + 1) = l.take i ++ [c] := by rw [List.take_succ, h]; rfl
theorem red_ins (a x b : List Nat) : red (a ++ x ++ inv x ++ b) = red (a ++ b) := by
  have := red_mid a (x ++ inv x) b
  rw [red_cancel, List.append_nil] at this
  rw [List.append_assoc a, ← this]
theorem red_ins1 (a : List Nat) (c : Nat) (b : List Nat) : red (a ++ [c] ++ [opN c] ++ b) = red (a ++ b) := red_ins a [c] b
/-- a word some times in a row -/
def repL (k : Nat) (l : List Nat) : List Nat := (List.replicate k l).flatten
theorem repL_zero (l : List Nat) : repL 0 l = [] := rfl
theorem repL_succ (k : Nat) (l : List Nat) : repL (k + 1) l = l ++ repL k l := by unfold repL; rw [List.replicate_succ, List.flatten_cons]
theorem repL_one (l : List Nat) : repL 1 l = l := by rw [repL_succ, repL_zero, List.append_nil]
theorem repL_add (j k : Nat) (l : List Nat) : repL (j + k) l = repL j l ++ repL k l := by
  induction j with
  | zero => rw [Nat.zero_add, repL_zero, List.nil_append]
  | succ j ih => rw [Nat.succ_add, repL_succ, repL_succ, ih, List.append_assoc]
theorem repL_snoc (k : Nat) (l : List Nat) : repL (k + 1) l = repL k l ++ l := by rw [repL_add, repL_one]
theorem repL_len (k : Nat) (l : List Nat) : (repL k l).length = k * l.length := by
  induction k with
  | zero => rw [repL_zero, Nat.zero_mul]; rfl
  | succ k ih => rw [repL_succ, List.length_append, ih, Nat.succ_mul, Nat.add_comm]
theorem repL_nil (k : Nat) : repL k [] = [] := by
  induction k with
  | zero => rfl
  | succ k ih => rw [repL_succ, ih]; rfl
theorem repL_mem {k : Nat} {l : List Nat} {c : Nat} (h : c ∈ repL k l) : c ∈ l := by
  induction k with
  | zero => cases h
  | succ k ih =>
    rw [repL_succ] at h
    exact (List.mem_append.mp h).elim id ih
theorem AL.rep {l : List Nat} (h : AL l) (k : Nat) : AL (repL k l) := fun c hc => h c (repL_mem hc)
theorem inv_rep (k : Nat) (l : List Nat) : inv (repL k l) = repL k (inv l) := by
  induction k with
  | zero => rfl
  | succ k ih => rw [repL_succ, inv_app, ih, repL_snoc]
end G

set_option Elab.async false
set_option linter.all false
set_option maxRecDepth 100000
set_option maxHeartbeats 4000000
namespace G
open PySem L2
/-! an own error class: its __init__ says super().__init__(..) and then stores fields; the frame has the one captured name __class__ -/
section
open PySem.W PySem.Calls PyProof.Rows
/-- what the written part says of such an __init__ at fI: its class stands in the cell cc -/
structure SupC (P : Program) (K : Fr) (mg : Str → Option Value) (C fI cc cda : Addr) (qual : Str) (params : Arguments) (body : List Stmt) (scope : Scope) (p : Str) (fd : FuncData) : Prop where
  ex : OexC K C
  lk : ∃ (oc : Value) (od : Option Addr) (kV doc pm : Value) (an : Option Addr) (ct : Value) (osl : Array (Option Value)), fd = ksFn "__init__" qual params body scope .none kV doc pm an (.ref cda) ct cc ∧ K.lookup fI = some ⟨oc, od, .func fd, osl⟩
  cd : codeIn K (.ref cda) qual = true
  hp : ∃ ar : Arg, (params.posonlyargs ++ params.args).head? = some ar ∧ ar.arg = "self"
  file : ∃ (ccl : Value) (cdd : Option Addr) (vs : Array Value) (ccs : Array (Option Value)) (f : Str) (tf : Tok), K.lookup cda = some ⟨ccl, cdd, .fields vs, ccs⟩ ∧ vs[2]? = some (.str f tf) ∧ ((P.main.file : Str) == f) = true
  cell : ∃ (cl : Value) (cld : Option Addr) (csl : Array (Option Value)), K.lookup cc = some ⟨cl, cld, .cell (some (.ref C)), csl⟩
  sub : mroIn K C (.ref C) = some true
  sup : mg "super" = none
  top : (P.main.scope.names.lookup ("super" : Str)).isSome = false
  thi : nsIn K cStatics "thirdparty.any" = some none
  par : ks_superIn K C C "__init__" = some (some (.builtin "ValueError.__init__"))
  sbV : subIn K (.ref C) (.type "ValueError") = some true
  sK : scope.kind = .function
  sC : scope.isCoroutine = false
  sG : scope.isGenerator = false
  sS : scope.names.lookup ("super" : Str) = some .globalImplicit
  sL : scope.names.lookup ("__class__" : Str) = some .free
  sE : scope.names.lookup ("self" : Str) = some .local
  sP : scope.names.lookup p = some .local
  sN : ∀ y ∈ scope.names, y.2 ≠ .cell
  sF : ∀ y : Str, scope.names.lookup y = some .free → y = "__class__"
  nP : (p : Str) ≠ "self"
abbrev supEnv (qual : Str) (scope : Scope) (L fI cda cc : Addr) : Env := ksEnv qual scope L fI (.ref cda) cc
def supCx (CX : CXT) (P : Program) (w : World) (K : Fr) (mg : Str → Option Value) (base : Heap) (N : List Str) (qual : Str) (scope : Scope) (fI cda cc : Addr) (A : Around) (outer : List Env) (s : Shared) (H : Hp) (E : XK) : Cx where
  prog := P
  w := w
  K := K
  mg := mg
  base := base
  A := A.deeper (supEnv qual scope s.heap.objs.size fI cda cc)
  N := N
  s_0 := s
  H_0 := H
  env := supEnv qual scope s.heap.objs.size fI cda cc
  outer := outer
  stack := supEnv qual scope s.heap.objs.size fI cda cc :: outer
  ex := []
  fn := fun _ => false
  calm := true
  pn := []
  xe := fun _ _ => False
section
variable {CX : CXT} {P : Program} {w : World} {K : Fr} {mg : Str → Option Value} {base : Heap} {C fI cc cda : Addr} {qual : Str} {params : Arguments} {body : List Stmt} {scope : Scope} {p : Str} {fd : FuncData} {A : Around} {outer : List Env} {s : Shared} {H : Hp} {E : XK} {a : Addr} {v : V} {u : Value}
theorem sup_start (S : SupC P K mg C fI cc cda qual params body scope p fd) (hd : A.handled = none) (e0 : Env0 P w K mg base A outer s H) (r : RelV v u) {h1 : Heap} {tk : Nat}
    (hns : h1.Ns s.heap.objs.size (fun x => ([(("self" : Str), Value.ref a), (p, u)] : List (Str × Value)).reverse.lookup x)) (hk : ∀ b o, s.heap.get? b = some o → h1.get? b = some o) :
    Inv (supCx CX P w K mg base ["self", p] qual scope fI cda cc A outer s H E) [] [some (.ref a), some v] H { s with heap := h1, toks := tk } := by
  have KX : K.In s.heap := e0.mod.kin.keeps fun b o e => (e0.bs b o e).1
  obtain ⟨cl, cld, csl, hcell⟩ := S.cell
  have cx : ∀ y c, (supCx CX P w K mg base ["self", p] qual scope fI cda cc A outer s H E).env.cells.lookup y = some c → y = "__class__" ∧ c = cc := fun y c h => by
    have h' : ([(("__class__" : Str), cc)] : List (Str × Addr)).lookup y = some c := h
    by_cases e : y = ("__class__" : Str)
    · subst e
      simp [List.lookup] at h'
      exact ⟨rfl, h'.symm⟩
    · have : (y == ("__class__" : Str)) = false := by simpa using e
      simp [List.lookup, this] at h'
  have hcc := KX _ _ hcell
  have nA : ∀ b : Addr, b ∉ (supCx CX P w K mg base ["self", p] qual scope fI cda cc A outer s H E).ex := fun b z => absurd (show b ∈ ([] : List Addr) from z) (by simp)
  constructor
  · constructor
    · exact e0.mod
    · exact S.sK
    · rfl
    · rfl
    · exact Nat.le_refl _
    · intro x y c h1 h2
      rw [(cx x c h1).1, (cx y c h2).1]
    · intro x h
      have h' : scope.names.lookup x = some .cell ∨ scope.names.lookup x = some .free := h
      rcases h' with h' | h'
      · exact absurd rfl (S.sN _ (PySem.mem_of_lookup h'))
      · rw [S.sF x h']
        exact ⟨cc, by show ([(("__class__" : Str), cc)] : List (Str × Addr)).lookup ("__class__" : Str) = some cc; simp [List.lookup]⟩
    · intro x c h
      exact absurd (show false = true from h) (by decide)
    · exact fun _ => hd
    · exact Around.frames_deeper e0.frames
    · exact .inr ⟨rfl, rfl⟩
    · exact fun b z => absurd z (nA b)
    · exact e0.bs
    · exact e0.bsz
    · exact fun b _ _ => nA b
    · exact fun b z => absurd z (nA b)
    · exact e0.funs
    · exact e0.frf
  · rfl
  · exact e0.bare
  · exact Un.kept hk
  · refine ⟨_, hns, fun i x w' e1 e2 e3 => ?_⟩
    have np : (p == ("self" : Str)) = false := by simpa using S.nP
    match i, e1, e2 with
    | 0, e1, e2 =>
      cases e1
      cases e2
      refine ⟨.ref a, rfl, .inl ⟨S.sE, ?_⟩⟩
      have : (("self" : Str) == p) = false := beq_eq_false_iff_ne.mpr (Ne.symm S.nP)
      show ([(p, u), (("self" : Str), Value.ref a)] : List (Str × Value)).lookup ("self" : Str) = some (Value.ref a)
      simp [List.lookup, this]
    | 1, e1, e2 =>
      cases e1
      cases e2
      refine ⟨u, r, .inl ⟨S.sP, ?_⟩⟩
      show ([(p, u), (("self" : Str), Value.ref a)] : List (Str × Value)).lookup p = some u
      simp [List.lookup]
    | i + 2, e1, e2 => exact absurd (show (none : Option Str) = some x from e1) (by simp)
  · intro x c h
    obtain ⟨_, rfl⟩ := cx x c h
    exact ⟨_, _, hk _ _ hcc, rfl⟩
  · exact e0.hok.fresh (Nat.le_refl _)
  · intro x c h
    obtain ⟨_, rfl⟩ := cx x c h
    obtain ⟨o, ho⟩ : ∃ o, base.get? c = some o := ⟨_, e0.mod.kin _ _ hcell⟩
    exact (e0.bs _ _ ho).2
  · intro q hq
    exact absurd (show q ∈ ([] : List (Addr × Obj)) from hq) (by simp)
  · exact e0.hok.kept hk
  · rfl
/-- the reading of super().__init__(m) by its place -/
def SupEv (p0 p1 p2 p3 p4 : Pos) (m : Str) (j : Nat) (pl : Sem Bool) : Prop := ∀ env : Env, eval (.Call (.Attribute (.Call (.Name "super" p0) [] [] p1) "__init__" p2) [.Constant (.str m) j p3] [] p4) env = (do
      let ov ← attributeBase (.Call (.Name "super" p0) [] [] p1) "__init__" env (eval (.Call (.Name "super" p0) [] [] p1) env)
      standAt p2.atName
      let (f, first) ← holding [ov] (getMethod ov "__init__" pl)
      callWith p4 f first (backTo p4 (starEach [.Constant (.str m) j p3] env)) [])
theorem sup_super {p0 p1 p2 p3 p4 p5 : Pos} {pl : Sem Bool} {m : Str} {j : Nat} {σ : L2.St} {s1 : Shared} {H1 : Hp} {Q : Flow → Shared → Prop} {E1 : Value → Shared → Prop} (S : SupC P K mg C fI cc cda qual params body scope p fd)
    (I : Inv (supCx CX P w K mg base ["self", p] qual scope fI cda cc A outer s H E) [] σ H1 s1) (hσ : σ[0]? = some (some (V.ref a))) (ea : H1 a = some (exo a C none))
    (hev : SupEv p0 p1 p2 p3 p4 m j pl) (h : ∀ s', Inv (supCx CX P w K mg base ["self", p] qual scope fI cda cc A outer s H E) [] σ H1 s' → Q .next s') (hsw : swapsWith (.Call (.Attribute (.Call (.Name "super" p0) [] [] p1) "__init__" p2) [.Constant (.str m) j p3] [] p4) none p5.line (supEnv qual scope s.heap.objs.size fI cda cc) = pure false := by rfl) :
    _root_.PySem.wpAt (model P w) (A.deeper (supEnv qual scope s.heap.objs.size fI cda cc)) (.func body (supEnv qual scope s.heap.objs.size fI cda cc))
      (exec (.Expr (.Call (.Attribute (.Call (.Name "super" p0) [] [] p1) "__init__" p2) [.Constant (.str m) j p3] [] p4) p5) (supEnv qual scope s.heap.objs.size fI cda cc)) Q E1 s1 := by
  obtain ⟨oc, od, kV, doc, pm, an, ct, osl, rfl, lk⟩ := S.lk
  obtain ⟨ar, hp, har⟩ := S.hp
  obtain ⟨ccl, cdd, vs, ccs, file, tf, hcode, hvs, hfile⟩ := S.file
  obtain ⟨cl, cld, csl, hcell⟩ := S.cell
  obtain ⟨nm, q, N, bs, bm, sn, sub, ab, col, dd, k0, k1, k2, k3, k5, hC, hbm⟩ := S.ex.cls
  have hcl : PySem.W.clsIn K C = some { name := nm, bases := bs, mro := .ref C :: bm, ns := N, qualname := q, hasDict := true, slotNames := sn, subclasses := sub, abstract := ab, collection := col, hasDel := false } := by unfold PySem.W.clsIn; rw [hC] <;> rfl
  obtain ⟨t1, ho⟩ := exo_at I.hok ea
  obtain ⟨ml, hns, hl⟩ := I.loc
  obtain ⟨us, rs, ls⟩ := hl 0 "self" (V.ref a) rfl hσ (.inl S.sE)
  obtain rfl : us = Value.ref a := rs
  have hself : ml "self" = some (.ref a) := by
    rcases ls with ⟨_, z⟩ | ⟨z, _⟩
    · exact z
    · have z' : scope.names.lookup ("self" : Str) = some .cell ∨ scope.names.lookup ("self" : Str) = some .free := z
      rw [S.sE] at z'
      rcases z' with z' | z' <;> cases z'
  have KX : K.In s1.heap := I.kIn
  obtain ⟨mb, hmb, hbt⟩ := I.mod.blt
  obtain ⟨hh, g, d, t, os⟩ := s1
  have IA : InstAt hh a ({ cls := .ref C, dict := none, data := .fields #[.ref t1, .none, .none, .none, .bool false, .none] } : Obj) C none := ⟨ho, rfl, rfl, trivial⟩
  refine ks_wpAt_Expr_any (ks_wpAt_MethodCall (pl := pl) ?_ (hev _)) I.quiet hsw
  refine ks_wpAt_super_base (env := supEnv qual scope s.heap.objs.size fI cda cc) S.sS S.sL (by decide) rfl (KX _ _ lk) rfl hp rfl (KX _ _ hcode) rfl hvs hfile S.top ?_
  refine ks_loadName_global S.sK S.sS (loadGlobal_builtin (env := supEnv qual scope s.heap.objs.size fI cda cc) (I.mod.glob.keeps I.bk) S.sup (hmb.keeps I.bk) ((hbt _ (by decide +kernel)).trans PyProof.Rows.Boot.«super») ⟨rfl, ?_⟩)
  refine wpAny_loadName_free S.sK S.sL rfl ⟨_, KX _ _ hcell, rfl⟩ ?_
  rw [har]
  refine wpAny_loadName_local S.sK S.sE hns hself ?_
  refine ks_wpAny_isType_cls (KX _ _ hC) rfl ⟨rfl, ?_⟩
  refine ks_wpAny_call_super (KX _ _ hC) rfl ho rfl (fun c e => by cases e) (looks_mroIn KX S.sub) (fun h1 e1 k1 => ?_)
  have I1 := I.kept (h' := h1) (t' := t) k1
  have ho1 := k1 _ _ ho
  have K1 : K.In h1 := I1.kIn
  refine kxs_getMethod kxs_ValueError e1 (looks_opaque K1 S.thi) (l₀ := .ref C :: bm) ((looks_clsIn K1 hcl).andThen .now) rfl K1 (by have z := S.par; unfold ks_superIn at z; rw [hcl] at z; exact z) ?_ (ks_ne K1 (⟨ho1, rfl, rfl, trivial⟩ : InstAt h1 a _ C none) hcl) (by decide) ?_
  · exact (InstAt.type (⟨ho1, rfl, rfl, trivial⟩ : InstAt h1 a _ C none)).andThen (looks_subIn K1 S.sbV)
  have hu : (h1.push (kxs_mw "ValueError.__init__" a)).get? h1.objs.size = some (kxs_mw "ValueError.__init__" a) := Heap.get?_push_size _ rfl
  have k2 : ∀ b o, h1.get? b = some o → (h1.push (kxs_mw "ValueError.__init__" a)).get? b = some o := fun b o e => Heap.get?_push_of_some _ e
  have I2 := I1.kept (h' := h1.push (kxs_mw "ValueError.__init__" a)) (t' := t + 1) k2
  refine kxs_callWith (i := "ValueError.__init__") (x := a) rfl (evalArgs_plain (spliced_cons (Calls.Constant_str (k := j) (pos := p3) (spliced_nil ⟨hu, ?_⟩))))
  have I3 := I2.tok (t + 1 + 1)
  have hC3 := I3.kIn _ _ hC
  refine wpAny_call (codeAny_of_tree ?_)
  show wpAny _ _ (callAny (.ref h1.objs.size) ⟨_, []⟩) _ _ _
  simp only [callAny]
  refine wpAny_bind (wpAny_load hu ?_)
  simp only [kxs_mw, show (Value.type "method-wrapper" == Value.type "method" || Value.type "method-wrapper" == Value.type "builtin_function_or_method" || Value.type "method-wrapper" == Value.type "method-wrapper") = true by decide, if_true]
  refine KFB.if_so (by decide) ?_
  refine wpAny_bind (check_bound_init PySem.F.excBase_ValueError.toExcCallFacts hC3 (k2 _ _ ho1) rfl ?_)
  refine wpAny_bind (wpAny_pure (wpAny_pure ?_))
  refine ⟨plainId_quiet PySem.F.excBase_ValueError.init.plain _, codeAny_builtin PySem.F.excBase_ValueError.initEntry ?_⟩
  refine exc_init_tree (cls := .ref C) (t0 := t1) (dv := none) (c2 := .none) (c3 := .none) (b4 := .bool false) (k2 _ _ ho1) (by show 1 ≤ sizeLine; rw [sizeLine_eq]; omega) (fun h' k hx _ => ?_)
  have J := I3.write (t' := t + 1 + 1) (x := a) (e := a) (o := exo a C none) (by rw [ea]; exact True.intro) (.inl rfl) k ⟨_, hx⟩ (exo_ok hx)
  have eu : upd H1 a (exo a C none) = H1 := by
    funext b
    by_cases hb : b = a
    · rw [hb, upd_same, ea]
    · rw [upd_ne hb]
  rw [eu] at J
  exact h _ J
end
/-- its words: super().__init__(m), self.code = m, self.p = p -/
structure SupB (body : List Stmt) (m p : Str) : Prop where
  w : ∃ (p0 p1 p2 p3 p4 p5 q0 q1 q2 q3 r0 r1 r2 r3 : Pos) (pl : Sem Bool) (j j2 : Nat),
    body = [.Expr (.Call (.Attribute (.Call (.Name "super" p0) [] [] p1) "__init__" p2) [.Constant (.str m) j p3] [] p4) p5, .Assign [.Attribute (.Name "self" q0) "code" q1] (.Constant (.str m) j2 q2) q3, .Assign [.Attribute (.Name "self" r0) p r1] (.Name p r2) r3] ∧
    SupEv p0 p1 p2 p3 p4 m j pl ∧ (∀ env : Env, swapsWith (.Call (.Attribute (.Call (.Name "super" p0) [] [] p1) "__init__" p2) [.Constant (.str m) j p3] [] p4) none p5.line env = pure false) ∧
    (∀ env : Env, swapsWith (.Constant (.str m) j2 q2) (some (.Attribute (.Name "self" q0) "code" q1)) q3.line env = pure false) ∧ ∀ env : Env, swapsWith (.Name p r2) (some (.Attribute (.Name "self" r0) p r1)) r3.line env = pure false
def spInit (C : Addr) (m p : Str) : Sp := fun vs H Q E => ∃ a v, vs = [.ref a, v] ∧ H a = some (exo a C none) ∧ ∀ d, H d = none → d ≠ a →
  Q .non (upd (upd (upd H d (exd d [("code", .str m)])) a (exo a C (some d))) d (exd d [(p, v), ("code", .str m)]))
section
variable {CX : CXT} {P : Program} {w : World} {K : Fr} {mg : Str → Option Value} {base : Heap} {C fI cc cda : Addr} {qual : Str} {params : Arguments} {body : List Stmt} {scope : Scope} {p m : Str} {fd : FuncData}
theorem sup_ok {k : Nat} (S : SupC P K mg C fI cc cda qual params body scope p fd) (B : SupB body m p) (nC : findIn K (.ref C) "code" = some none) (nP : findIn K (.ref C) p = some none) (hpc : (p : Str) ≠ "code") (hdp : (p == ("__debug__" : Str)) = false) (hcp : (p == ("__classdict__" : Str)) = false) : FnOk P w K mg base CX (k + 1) fI fd ["self", p] (spInit C m p) := by
  refine ⟨fun vs H Q E h => ?_, fun A outer s H args us vs Q E hr e0 hb r h => ?_⟩
  · obtain ⟨a, v, rfl, _⟩ := h
    rfl
  · obtain ⟨a, v, rfl, ea, hq⟩ := h
    obtain ⟨p0, p1, p2, p3, p4, p5, q0, q1, q2, q3, r0, r1, r2, r3, pl, j, j2, hbody, hev, hs1, hs2, hs3⟩ := B.w
    obtain ⟨oc, od, kV, doc, pm, an, ct, osl, efd, lk⟩ := S.lk
    have KX : K.In s.heap := e0.mod.kin.keeps fun b o e => (e0.bs b o e).1
    have lim : s.heap.NoLimit := e0.mod.nolimit.keeps fun b o e => (e0.bs b o e).1
    cases r with
    | cons ra rb =>
    cases rb with
    | cons rv rn =>
    cases rn
    rename_i u0 u
    obtain rfl : u0 = Value.ref a := ra
    subst efd
    refine ks_codeAny_call_defAt hr.depth (KX _ _ lk) rfl lim (codeRec_of KX S.cd) rfl hb S.sN (fun x hx => ?_) (fun h₀ hns kp => ?_) S.sC S.sG S.sK
    · rcases List.mem_cons.mp hx with z | z
      · rw [z]; exact S.sE
      · rcases List.mem_cons.mp z with z | z
        · rw [z]; exact S.sP
        · cases z
    · subst hbody
      have I0 := sup_start (CX := CX) (E := E) S hr.hd e0 rv hns kp (tk := s.toks + 2)
      refine ks_wpAt_execs_cons (sup_super S I0 rfl ea hev (fun s' I1 => ?_) (hs1 _))
      have fin : ∀ {σ' : L2.St} {H' : Hp} {v : V} {u : Value} {s'' : Shared}, Inv (supCx CX P w K mg base ["self", p] qual scope fI cda cc A outer s H E) [] σ' H' s'' → L2.RelV v u → Q v H' → CE outer P w H s Q u s'' :=
        fun {σ' H' v u s''} J rv q => ⟨v, H', J.os, J.bare, J.base, J.hok, rv, q⟩
      refine wpAt_of_wpAny (wpAny_mono ((pss_cons (ps_ost (X := supCx CX P w K mg base ["self", p] qual scope fI cda cc A outer s H E) (pe_var (i := 0) rfl (.inl S.sE)) pe_str (hs2 _)) (pss_one (ps_ost (pe_var (i := 0) rfl (.inl S.sE)) (pe_var (i := 1) rfl (.inl S.sP) hdp hcp) (hs3 _)))).run [] s' _ H { nx := fun _ H' => Q .non H', rt := fun _ _ => False } I1 ?_) (fun fl s'' hs => ?_) fun e s'' hs => False.elim hs)
      · have ne1 : ∀ d, H d = none → d ≠ a := fun d e z => by rw [z, ea] at e; cases e
        refine ⟨_, rfl, a, C, rfl, S.ex, nC, .inl ⟨ea, fun d hd da => ?_⟩⟩
        refine ⟨v, rfl, _, rfl, a, C, rfl, S.ex, nP, .inr ⟨d, _, upd_same, ?_, by show 1 ≤ 900; omega, hq d hd da⟩⟩
        rw [upd_ne da, upd_same]
      · cases fl with
        | ret u =>
          obtain ⟨v, σ', H', J, rv, q⟩ := hs
          exact False.elim q
        | next =>
          obtain ⟨σ', H', J, q⟩ := hs
          exact fin (v := V.non) (u := Value.none) J rfl q
        | brk =>
          obtain ⟨_, _, _, q⟩ := hs
          exact False.elim q
        | cont =>
          obtain ⟨_, _, _, q⟩ := hs
          exact False.elim q
end
end
open PySem.W PySem.Calls PyProof.Rows
/-- the whole of an own error class C with the field p: its code name m -/
structure ErrC (P : Program) (K : Fr) (mg : Str → Option Value) (C : Addr) (m p : Str) : Prop where
  ex : OexC K C
  ini : ∃ (fI cc cda : Addr) (qual : Str) (params : Arguments) (body : List Stmt) (scope : Scope) (fd : FuncData), SupC P K mg C fI cc cda qual params body scope p fd ∧ SupB body m p ∧ findIn K (.ref C) "code" = some none ∧ findIn K (.ref C) p = some none ∧ (p : Str) ≠ "code" ∧
    (p == ("__debug__" : Str)) = false ∧ (p == ("__classdict__" : Str)) = false ∧ findIn K (.ref C) "__init__" = some (some (.ref fI)) ∧ typeIn K (.ref fI) = some (.type "function") ∧ Binds K fd ["self", p] []
/-- C(e): told of the dict's fields -/
def tMkE (C : Addr) (m p : Str) (ta : TA) : L2.St → Hp → XK → Prop := fun σ H Q => ta σ H fun vs H1 => ∃ v, vs = [v] ∧ ∀ d, H1 d = none → Q (.ref C) (some d) (upd H1 d (.xd [(p, v), ("code", .str m)]))
section
variable {X : Cx} {x m p : Str} {C : Addr} {e : Expr} {ta : TA} {pp pos : Pos}
theorem pmk_err (T : ErrC X.prog X.K X.mg C m p) (hr : Room 2 X.A) (hm : X.mg x = some (.ref C)) (ha : PA X [e] ta) (hg : Gl X x := by rfl)
    (hdb : (x == ("__debug__" : Str)) = false := by decide) (he : starEach [e] X.env = (false, eval e X.env) :: starEach [] X.env := by rfl) :
    L2N.PMk X (.Call (.Name x pp) [e] [] pos) (tMkE C m p ta) := by
  intro pins s σ H Q I h
  obtain ⟨fI, cc, cda, qual, params, body, scope, fd, S, B, nC, nP, hpc, hdp, hcp, iC, tI, hb⟩ := T.ini
  obtain ⟨nm, q, N, bs, bm, sn, sub, ab, col, dd, k0, k1, k2, k3, k5, hC, hbm⟩ := T.ex.cls
  refine wpAny_Call_Name_kw (ld_glob I hg hm ?_ hdb)
  refine PySem.W.callWith_K (h₀ := X.base) I.ok.mod.kin T.ex.kC (thn (ha.run pos pins s σ H _ I h) fun us s1 ⟨vs, H1, I1, r1, v, ev, q1⟩ => ⟨I1.kIn, ?_⟩) he rfl
  subst ev
  show wpAny _ _ (call (.ref C) us) _ _ _
  obtain ⟨hp, g, dr, tk, os⟩ := s1
  have hsz : hp.objs.size ≤ hp.objs.size + 1 := Nat.le_succ _
  have hn : H1 (hp.objs.size + 1) = none := I1.hok.fresh hsz
  have kk : ∀ b o, hp.get? b = some o → ((hp.push (PySem.W.kdv_tup us)).push (PySem.HandSPX.excO C hp.objs.size)).get? b = some o := fun b o e => Heap.get?_push_of_some _ (Heap.get?_push_of_some _ e)
  have hget : ((hp.push (PySem.W.kdv_tup us)).push (PySem.HandSPX.excO C hp.objs.size)).get? (hp.objs.size + 1) = some (PySem.HandSPX.excO C hp.objs.size) := by heap_get
  have I2 : Inv X pins σ (upd H1 (hp.objs.size + 1) (exo (hp.objs.size + 1) C none)) ⟨(hp.push (PySem.W.kdv_tup us)).push (PySem.HandSPX.excO C hp.objs.size), g, dr, tk, os⟩ :=
    I1.laid (t' := tk) (a := hp.objs.size + 1) (o := exo (hp.objs.size + 1) C none) (h' := (hp.push (PySem.W.kdv_tup us)).push (PySem.HandSPX.excO C hp.objs.size)) kk hsz (exo_ok hget)
  have r2 : Vals [V.ref (hp.objs.size + 1), v] (Value.ref (hp.objs.size + 1) :: us) := .cons rfl r1
  have hus : us.length ≤ sizeLine := by
    rw [← Paired.length r1, sizeLine_eq]
    show 1 ≤ _
    omega
  have F1 : FnOk X.prog X.w X.K X.mg X.base (fun _ _ _ _ _ _ => False) 1 fI fd ["self", p] (spInit C m p) := sup_ok S B nC nP hpc hdp hcp
  have hq : spInit C m p [V.ref (hp.objs.size + 1), v] (upd H1 (hp.objs.size + 1) (exo (hp.objs.size + 1) C none)) (fun w H2 => w = .non ∧ ∃ (d : Addr), H2 (hp.objs.size + 1) = some (exo (hp.objs.size + 1) C (some d)) ∧ H2 d = some (exd d [(p, v), ("code", .str m)]) ∧ H1 d = none ∧ Q (.ref C) (some d) (upd (del H2 (hp.objs.size + 1)) d (.xd [(p, v), ("code", .str m)]))) (fun _ _ _ => False) := by
    refine ⟨_, v, rfl, upd_same, fun d hd da => ⟨rfl, d, ?_, upd_same, ?_, ?_⟩⟩
    · rw [upd_ne (Ne.symm da), upd_same]
    · rw [upd_ne da] at hd
      exact hd
    · rw [upd_ne da] at hd
      have z := q1 d hd
      have eq : upd (del (upd (upd (upd (upd H1 (hp.objs.size + 1) (exo (hp.objs.size + 1) C none)) d (exd d [("code", .str m)])) (hp.objs.size + 1) (exo (hp.objs.size + 1) C (some d))) d (exd d [(p, v), ("code", .str m)])) (hp.objs.size + 1)) d (.xd [(p, v), ("code", .str m)]) = upd H1 d (.xd [(p, v), ("code", .str m)]) := by
        funext b
        by_cases b1 : b = d
        · rw [b1, upd_same, upd_same]
        · rw [upd_ne b1, upd_ne b1]
          by_cases b2 : b = hp.objs.size + 1
          · rw [b2, del_same, hn]
          · rw [del_ne b2, upd_ne b1, upd_ne b2, upd_ne b1, upd_ne b2]
      rw [eq]
      exact z
  refine wpAny_call (PySem.HandSPX.call_own F.excBase_ValueError (fun Y => PySem.HandSPX.refsVE_contains Y bm hbm) (I1.kIn _ _ hC) (PySem.W.looks_findIn I1.kIn iC) (fun self => PySem.W.bind_fn I1.kIn self tI) hus
    (codeAny_mono (F1.run _ X.stack _ _ ⟨Value.ref (hp.objs.size + 1) :: us, []⟩ (Value.ref (hp.objs.size + 1) :: us) _ _ (fun _ _ _ => False) (hr.make C us []) (I2.env0.make C us []) (by have z := hb _ (Value.ref (hp.objs.size + 1) :: us) I2.kIn (by rw [List.append_nil, List.length_cons, ← Paired.length r1]; rfl); rw [List.append_nil] at z; exact z) r2 hq) fun r s' hq' => ?_))
  cases r with
  | error er => exact False.elim hq'
  | ok fl =>
    cases fl with
    | ret u =>
      obtain ⟨w, H2, os2, bare2, un2, hok2, rv, ev, d, ea, ed, hd1, q2⟩ := hq'
      subst ev
      obtain ⟨h2, g2, d2, t2, os'⟩ := s'
      obtain ⟨t0, G, J, kG, ge, hoe, na⟩ := mk_end0 (d2 := d2) (t2 := t2) I1 hsz kk un2 hok2 os2 bare2 ea ed hd1
      exact ⟨rv, _, _, _, ⟨G, g2, d2, t2, os'⟩, _, .ref C, some d, rfl, J, kG, ge, hoe, ⟨rfl, rfl, fun vs e => by cases e; rfl⟩, rfl, rfl, na, rfl, bare2, raises_own T.ex.exC T.ex.tyC, q2⟩
    | next => exact False.elim hq'
    | brk => exact False.elim hq'
    | cont => exact False.elim hq'
end
/-! except (x1, x2, x3) as n -/
section
open PySem.Spec L2N
theorem flyK {B h h' : Heap} {l : List Env} {e : Addr} {Z : Obj → Prop} (f : HandSPX.FlyingZ B l e Z h) (k : ∀ b o, h.get? b = some o → h'.get? b = some o) : HandSPX.FlyingZ B l e Z h' := by
  obtain ⟨q1, q2, q3, oe, vs, T, oT, ts, r1, r2, r3, r4, r5, r6, r7, r8, r9⟩ := f
  exact ⟨fun b o q => k b o (q1 b o q), q2, q3.of_keeps fun b o q _ => ⟨o, k b o q, rfl⟩, oe, vs, T, oT, ts, k _ _ r1, r2, r3, r4, r5, r6, k _ _ r7, r8, r9⟩
def offEnds (i : Nat) (D : Ends) : Ends := { nx := fun z K' => D.nx (z.set i none) K', rt := D.rt, bk := fun z K' => D.bk (z.set i none) K', ct := fun z K' => D.ct (z.set i none) K' }
/-- the error is one of the three classes; its suite -/
def w3 (K : Fr) (c1 c2 c3 : Value) (i : Nat) (ts : Addr → Value → Option Addr → TS) (D : Ends) : WX := fun cls d σ H =>
  exmAny K cls [c1, c2, c3] = some true ∧ ∀ a, H a = none → ts a cls d (offEnds i D) (σ.set i (some (.ref a))) H
variable {X : Cx} {x1 x2 x3 n : Str} {c1 c2 c3 : Value} {i kk : Nat} {body suite : List Stmt} {st0 : Stmt} {q1 q2 q3 tpos pos hpos : Pos} {tb : WX → TS} {ts : Addr → Value → Option Addr → TS}
theorem ps_try3 (hs : X.stack = X.env :: X.outer) (hf : X.env.frame = some X.env.locals) (hN : X.N.Nodup) (hi : X.N[i]? = some n) (hln : X.env.kindOf n = some .local) (n1 : Names X x1 c1) (n2 : Names X x2 c2) (n3 : Names X x3 c3)
    (hb : ∀ (W : WX) (pn : List (Addr × Obj)) (xe : Value → Shared → Prop), L2N.Takes (X.tr pn xe) W → PassesOwn (model X.prog X.w) X.A X.env xe → PSs (X.tr pn xe) body (tb W))
    (hsu : ∀ (a : Addr) (oe : Obj) (cls : Value) (d : Option Addr) (pn : List (Addr × Obj)), Zn cls d oe → (∃ vs, oe.data = .fields vs) → PSs (X.suite a ((a, oe) :: pn)) (st0 :: suite) (ts a cls d)) :
    PS X (.Try body [.ExceptHandler (some (.Tuple [.Name x1 q1, .Name x2 q2, .Name x3 q3] kk tpos)) (some n) (st0 :: suite) hpos] [] [] pos) (fun D σ H => tb (w3 X.K c1 c2 c3 i ts D) D σ H) := by
  refine ⟨fun pins s σ H D I hh => ?_⟩
  have okX := I.ok
  have fr0 : X.A.frames = some (X.env :: X.outer) := by rw [okX.frames, hs]
  have locN : Loc X.env.scope n := .inl hln
  refine wpAny_Try_except (wpAny_mono ((hb (w3 X.K c1 c2 c3 i ts D) (X.pn ++ pins)
    (fun e s1 => wpAny (model X.prog X.w) X.A (noteFrame e X.env) (fun _ s2 => wpAny (model X.prog X.w) X.A (setFlight e none) (fun _ s3 =>
      wpAny (model X.prog X.w) X.A (handleBy e X.env [.ExceptHandler (some (.Tuple [.Name x1 q1, .Name x2 q2, .Name x3 q3] kk tpos)) (some n) (st0 :: suite) hpos]) (SP X pins D) X.xe s3) X.xe s2) X.xe s1)
    (fun u s2 xx => ?_) PassesOwn.looking).run [] s σ H D (I.toTry _) hh) (fun f s1 hsp => ?_) (fun e s1 he => he))
  · obtain ⟨a, B, sI, pins2, σ2, H2, cls, d, rfl, J0, nb, up, sky, na, os, ag, hm, hgo⟩ := xx
    have J : Inv X pins σ2 H2 sI := J0.ofTry okX
    have sky2 : Sky B (X.env :: X.outer) a (Zn cls d) X.env.locals s2.heap := by rw [← hs]; exact sky
    refine Sky.land Zn.steady fr0 hf sky2 fun h3 fl3 up3 => ?_
    have J3 : Inv X pins σ2 H2 { s2 with heap := h3 } := J.landed nb fl3.1 (up.trans up3) os ag
    obtain ⟨oe3, vs3, he3, hz3, hd3⟩ := fl3.there
    have nofr : a ∉ frs (X.env :: X.outer) := fun hm => by
      obtain ⟨_, o2, e2, hnf⟩ := fl3.2.2.1.mem hm
      rw [he3] at e2
      cases e2
      exact hnf _ hd3
    have nL : a ≠ X.env.locals := fun z => nofr (List.mem_filterMap.mpr ⟨X.env, List.mem_cons_self, by rw [hf, z]⟩)
    have nF : a ∉ X.fs := fun hm => by
      obtain ⟨e, he, q⟩ := List.mem_filterMap.mp hm
      exact nofr (List.mem_filterMap.mpr ⟨e, List.mem_cons_of_mem _ he, q⟩)
    have S3 := J3.suite he3 hd3 na nL nF
    have nm : ∀ {x : Str} {c : Value} {qp : Pos} {Q : Value → Shared → Prop} {E : Value → Shared → Prop}, Names X x c → Q c { s2 with heap := h3 } → wpAny (model X.prog X.w) (X.A.mark (some (.ref a))) (eval (.Name x qp) X.env) Q E { s2 with heap := h3 } := fun {x c qp Q E} hc q => by
      obtain ⟨hg, hdb, hm | ⟨hm, hv, hnn⟩⟩ := hc
      · exact ld_glob (X := X.suite a ((a, oe3) :: (X.pn ++ pins))) S3 hg hm q hdb
      · exact ld_blt (X := X.suite a ((a, oe3) :: (X.pn ++ pins))) S3 hg hm hv q hnn hdb
    refine wpAny_handleBy_cons (codeAny_handlers_test ?_) (by intro q; cases q)
    refine wpAny_Tuple (wpAny_items_cons (nm n1 (wpAny_items_cons (nm n2 (wpAny_items_cons (nm n3 (wpAny_items_nil ⟨by size_fits, ?_⟩)))))))
    have kp : ∀ b o, h3.get? b = some o → (h3.push { cls := .type "tuple", data := .seq [c1, c2, c3].toArray }).get? b = some o := fun _ _ z => Heap.get?_push_of_some _ z
    have LT : PySem.W.Looks (model X.prog X.w) h3 (typeOf (.ref a)) cls := fun A Q E s k q => wpAny_typeOf_ref (k _ _ he3) (by rw [hz3.1]; exact q)
    refine (exm_tup3 (J3.kIn.keeps kp) (LT.keeps kp) (Heap.get?_push_size h3 rfl) hm).here ?_
    refine codeAny_handlers_suite_as ?_
    refine HandSPX.lands_againZ (s := { s2 with heap := h3.push { cls := .type "tuple", data := .seq [c1, c2, c3].toArray } }) (flyK fl3 kp) fun h4 fl4 up4 => ?_
    have J4 : Inv X pins σ2 H2 { s2 with heap := h4 } := J.landed nb fl4.1 ((up.trans up3).trans ((Heap.UpToSlots.of_keeps kp).trans up4)) os ag
    obtain ⟨oe4, vs4, he4, hz4, hd4⟩ := fl4.there
    have S4 := J4.suite he4 hd4 na nL nF
    refine store_ok (X := X.suite a ((a, oe4) :: (X.pn ++ pins))) (v := .ref a) S4 hN hi locN rfl (fun s5 S5 => ?_) (.inr hln)
    refine wpAny_mono ((hsu a oe4 cls d (X.pn ++ pins) hz4 ⟨_, hd4⟩).run [] s5 _ H2 _ S5 (hgo a na)) (fun f s6 hsp => ?_) (fun _ _ z => False.elim z)
    have out : ∀ {σ6 : L2.St} {H6 : Hp} {Q : Shared → Prop}, Inv (X.suite a ((a, oe4) :: (X.pn ++ pins))) [] σ6 H6 s6 → (∀ s7, Inv X pins (σ6.set i none) H6 s7 → Q s7) →
        wpAny (model X.prog X.w) X.A (do bindName X.env n .none; unbindBehindTheSuite X.env n hpos) (fun _ s7 => Q s7) X.xe s6 := fun {σ6 H6 Q} S6 hq => gone_ok (S6.unsuite okX) hN hi hln hq
    cases f with
    | ret u =>
      obtain ⟨v6, σ6, H6, S6, r6, q6⟩ := hsp
      exact out S6 fun s7 J7 => ⟨_, _, _, J7, r6, q6⟩
    | next =>
      obtain ⟨σ6, H6, S6, q6⟩ := hsp
      exact out S6 fun s7 J7 => ⟨_, _, J7, q6⟩
    | brk =>
      obtain ⟨σ6, H6, S6, q6⟩ := hsp
      exact out S6 fun s7 J7 => ⟨_, _, J7, q6⟩
    | cont =>
      obtain ⟨σ6, H6, S6, q6⟩ := hsp
      exact out S6 fun s7 J7 => ⟨_, _, J7, q6⟩
  · cases f with
    | ret u =>
      obtain ⟨v, σ', H', J', r, q⟩ := hsp
      exact ⟨v, σ', H', J'.ofTry okX, r, q⟩
    | next =>
      obtain ⟨σ', H', J', q⟩ := hsp
      exact wpAny_execs_nil ⟨σ', H', J'.ofTry okX, q⟩
    | brk =>
      obtain ⟨σ', H', J', q⟩ := hsp
      exact ⟨σ', H', J'.ofTry okX, q⟩
    | cont =>
      obtain ⟨σ', H', J', q⟩ := hsp
      exact ⟨σ', H', J'.ofTry okX, q⟩
end
/-! a def that is called within the suite: the error p is pinned -/
section
open L2H
structure FnP (P : Program) (w : World) (K : Fr) (mg : Str → Option Value) (base : Heap) (k : Nat) (f : Addr) (fd : FuncData) (ps : List Str) (p : Addr × Obj) (sp : Sp) : Prop where
  len : ∀ vs H Q E, sp vs H Q E → vs.length = ps.length
  run : ∀ (A : Around) (outer : List Env) (s : Shared) (H : Hp) (args : Args) (us : List Value) (vs : List V) (Q : VK) (E : XK), RoomH k A → Hot1 A p → PinOk outer H s p → Env0 P w K mg base A outer s H → BindsTo s fd args (ps.zip us) →
    Vals vs us → sp vs H Q E → codeAny (model P w) A (.call (.ref f) args) (CR (fun _ _ _ _ _ _ => False) outer P w H s Q E) s
theorem fn_ofP {P : Program} {w : World} {K : Fr} {mg : Str → Option Value} {base : Heap} {k : Nat} {f : Addr} {name qual : Str} {params : Arguments} {body : List Stmt} {scope : Scope} {dV kV doc pm cdv ct oc : Value} {an od : Option Addr} {osl : Array (Option Value)} {N ps : List Str} {p : Addr × Obj} {sp : Sp}
    (lk : K.lookup f = some ⟨oc, od, .func (PySem.W.fnOf name qual params body scope dV kV doc pm an cdv ct), osl⟩) (hcd : PySem.W.codeIn K cdv qual = true) (S : FnScope N ps scope) (len : ∀ vs H Q E, sp vs H Q E → vs.length = ps.length)
    (hbody : ∀ (A : Around) (outer : List Env) (s : Shared) (H : Hp) (vs : List V) (Q : VK) (E : XK), RoomH k (A.deeper (envOfC qual scope s.heap.objs.size f cdv)) → sp vs H Q E →
      ∃ t, PSs (cxH (fun _ _ _ _ _ _ => False) P w K mg base N qual scope f cdv A outer s H E p) body t ∧ t { nx := fun _ H' => Q .non H', rt := Q } (L2.start N vs) H) :
    FnP P w K mg base (k + 1) f (PySem.W.fnOf name qual params body scope dV kV doc pm an cdv ct) ps p sp := by
  refine ⟨len, fun A outer s H args us vs Q E hr hot hpin e0 hb r hsp => ?_⟩
  have hl := len _ _ _ _ hsp
  have keep0 : ∀ b o, base.get? b = some o → s.heap.get? b = some o := fun b o e => (e0.bs b o e).1
  have hkind : ∀ y ∈ ps.zip us, scope.names.lookup y.1 = some .local ∨ (scope.names.lookup y.1 = some .cell ∧ ((cellsFrom (s.heap.objs.size + 1) scope.names []).lookup y.1).isSome = true) := by
    rintro ⟨n, v⟩ hy
    rcases S.par n (List.of_mem_zip hy).1 with q | q
    · exact .inl q
    · exact .inr ⟨q, PySem.W.cellsFrom_some _ _ _ (.inl q)⟩
  refine codeAny_call_function hr.depth ((e0.mod.kin.keeps keep0) _ _ lk) rfl S.co S.gen rfl (PySem.W.codeRec_of (e0.mod.kin.keeps keep0) hcd) (hb _ _ _ _ (wpAny_newFunctionEnv_cells S.kind hkind fun env he s1 x => ?_))
  subst he
  refine ⟨(e0.mod.nolimit.keeps keep0).keeps x.toInCall.keep, codeAny_func ?_⟩
  obtain ⟨t, ht, hq⟩ := hbody A outer s H vs Q E (hr.deeper _) hsp
  refine wpAny_mono (ht.run [] s1 (L2.start N vs) H _ (inv_startH S hpin e0 hl r x) hq) (fun fl s' hs => ?_) fun e s' hs => hs
  cases fl with
  | ret u =>
    obtain ⟨v, σ', H', J, rv, q⟩ := hs
    exact ⟨v, H', J.os, J.bare, J.base, J.hok, rv, q⟩
  | next =>
    obtain ⟨σ', H', J, q⟩ := hs
    exact ⟨V.non, H', J.os, J.bare, J.base, J.hok, rfl, q⟩
  | brk =>
    obtain ⟨_, _, _, q⟩ := hs
    exact False.elim q
  | cont =>
    obtain ⟨_, _, _, q⟩ := hs
    exact False.elim q
def tCallP (sp : Sp) (t : TA) : TE := fun σ H Q => t σ H fun vs H1 => sp vs H1 Q fun _ _ _ => False
theorem pe_callP {X : Cx} {k : Nat} {f : Addr} {fd : FuncData} {ps : List Str} {p : Addr × Obj} {sp : Sp} {x : Str} {q pos : Pos} {e : Expr} {es : List Expr} {t : TA} (F : FnP X.prog X.w X.K X.mg X.base k f fd ps p sp) (hr : RoomH k X.A) (hot : Hot1 X.A p) (hp : p ∈ X.pn) (hm : X.mg x = some (.ref f))
    (hk : PySem.W.keepIn X.K (.ref f) = true) (hb : Binds X.K fd ps []) (ha : PA X (e :: es) t) (hg : Gl X x := by rfl) (hdb : (x == ("__debug__" : Str)) = false := by decide)
    (he : starEach (e :: es) X.env = (false, eval e X.env) :: starEach es X.env := by rfl) (hpl : (backTo pos (starEach es X.env)).any (·.1) = false := by rfl) :
    PE X (.Call (.Name x q) (e :: es) [] pos) (tCallP sp t) := by
  refine ⟨fun pins s σ H Q I h => wpAny_Call_Name_kw (ld_glob I hg hm ?_ hdb)⟩
  refine PySem.W.callWith_K (h₀ := X.base) I.ok.mod.kin hk (thn (ha.run pos pins s σ H _ I h) fun us s1 ⟨vs, H1, I1, r, q⟩ => ⟨I1.kIn, ?_⟩) he hpl
  have bb := hb s1 us I1.kIn (by rw [List.append_nil, ← r.length]; exact F.len _ _ _ _ q)
  rw [List.append_nil] at bb
  have P1 := I1.pin p (List.mem_append_left _ hp)
  have hpin : PinOk X.stack H1 s1 p := ⟨P1.1, P1.2.1, fun hm => (List.mem_cons.mp (I1.stkSub p.1 hm)).elim P1.2.2.1 P1.2.2.2.1, P1.2.2.2.2⟩
  refine wpAny_call (codeAny_mono (F.run X.A X.stack s1 H1 ⟨us, []⟩ us vs Q (fun _ _ _ => False) hr hot hpin I1.env0 bb r q) fun r s' hq => ?_)
  cases r with
  | error e => exact False.elim hq
  | ok fl =>
    cases fl with
    | ret u => exact I1.after hq
    | next => exact False.elim hq
    | brk => exact False.elim hq
    | cont => exact False.elim hq
end
/-- an error's field can be read -/
structure XRd (K : Fr) (C : Addr) (f : Str) : Prop where
  ga : findIn K (.ref C) "__getattribute__" = some (some (.builtin "BaseException.__getattribute__"))
  gg : findIn K (.ref C) "__getattr__" = some none
  exC : subIn K (.ref C) (.type "BaseException") = some true
  hd : hasDictIn K C = true
  no : findIn K (.ref C) f = some none
def tXat (K : Fr) (p : Addr × Obj) (f : Str) (te : TE) : TE := fun σ H Q => te σ H fun x H1 => x = .ref p.1 ∧ ∃ (C d : Addr) (fs : List (Str × V)) (v : V), p.2.cls = .ref C ∧ p.2.dict = some d ∧ (∃ ws, p.2.data = .fields ws) ∧ XRd K C f ∧ H1 d = some (.xd fs) ∧ fs.lookup f = some v ∧ Q v H1
theorem pe_xat {X : Cx} {p : Addr × Obj} {e : Expr} {te : TE} {f : Str} {pos : Pos} (hp : p ∈ X.pn) (he : PE X e te) (hb : attributeBase e f X.env (eval e X.env) = eval e X.env := by rfl) : PE X (.Attribute e f pos) (tXat X.K p f te) := by
  refine ⟨fun pins s σ H Q I h => attr_of hb (thn (he.run pins s σ H _ I h) fun u s1 hh => ?_)⟩
  obtain ⟨x, H1, I1, rx, rfl, C, d, fs, v, hc, hdd, ⟨ws, hw⟩, R, ea, hl, q⟩ := hh
  obtain rfl : u = Value.ref p.1 := rx
  have hx : ObjOk X.prog X.w H1 s1.heap d (.xd fs) := I1.hok d _ ea
  obtain ⟨mA, hns, hr⟩ := hx
  obtain ⟨od, ho, hlk⟩ := lookIn_ns hns
  obtain ⟨u, hu, ru⟩ := RelO.some_of (v := v) (o := mA f) (by rw [← hl]; exact hr f)
  have J : PySem.W.InstAt s1.heap p.1 p.2 C (some od) := ⟨(I1.pin p (List.mem_append_left _ hp)).1, hc, by unfold PySem.W.notCls; rw [hw] <;> rfl, by rw [hdd]; exact ho⟩
  exact HandSPX.exc_get I1.kIn J R.ga R.gg R.exC (PySem.W.findObj_own R.hd R.no rfl (by rw [hlk, hu])) (handed_of ru) ⟨v, H1, I1.tok _, ru, q⟩
/-! the end's facts of such a class -/
section
open PySem.W
theorem supB_of {body : List Stmt} {m p : Str} {p0 p1 p2 p3 p4 p5 q0 q1 q2 q3 r0 r1 r2 r3 : Pos} {j j2 : Nat}
    (hb : body = [.Expr (.Call (.Attribute (.Call (.Name "super" p0) [] [] p1) "__init__" p2) [.Constant (.str m) j p3] [] p4) p5, .Assign [.Attribute (.Name "self" q0) "code" q1] (.Constant (.str m) j2 q2) q3, .Assign [.Attribute (.Name "self" r0) p r1] (.Name p r2) r3])
    (h1 : ∃ pl, SupEv p0 p1 p2 p3 p4 m j pl) (h2 : ∀ env : Env, swapsWith (.Call (.Attribute (.Call (.Name "super" p0) [] [] p1) "__init__" p2) [.Constant (.str m) j p3] [] p4) none p5.line env = pure false)
    (h3 : ∀ env : Env, swapsWith (.Constant (.str m) j2 q2) (some (.Attribute (.Name "self" q0) "code" q1)) q3.line env = pure false) (h4 : ∀ env : Env, swapsWith (.Name p r2) (some (.Attribute (.Name "self" r0) p r1)) r3.line env = pure false) : SupB body m p := by
  obtain ⟨pl, h1⟩ := h1
  exact ⟨⟨p0, p1, p2, p3, p4, p5, q0, q1, q2, q3, r0, r1, r2, r3, pl, j, j2, hb, h1, h2, h3, h4⟩⟩
/-- what the text says of the __init__ -/
structure SupS (st : Stmt) (p : Str) : Prop where
  hp : ∃ ar : Arg, ((defArgs st).posonlyargs ++ (defArgs st).args).head? = some ar ∧ ar.arg = "self"
  sK : (defScope st).kind = .function
  sC : (defScope st).isCoroutine = false
  sG : (defScope st).isGenerator = false
  sS : (defScope st).names.lookup ("super" : Str) = some .globalImplicit
  sL : (defScope st).names.lookup ("__class__" : Str) = some .free
  sE : (defScope st).names.lookup ("self" : Str) = some .local
  sP : (defScope st).names.lookup p = some .local
  sN : ∀ y ∈ (defScope st).names, y.2 ≠ .cell
  sF : ∀ y : Str, (defScope st).names.lookup y = some .free → y = "__class__"
  nP : (p : Str) ≠ "self"
  pc : (p : Str) ≠ "code"
  pd : (p == ("__debug__" : Str)) = false
  pe : (p == ("__classdict__" : Str)) = false
theorem lookup_all {l : List (Str × NameKind)} {q : Str} (h : (l.all fun y => !decide (y.2 = .free) || decide (y.1 = q)) = true) (y : Str) (e : l.lookup y = some .free) : y = q := by
  have := List.all_eq_true.mp h _ (PySem.mem_of_lookup e)
  simpa using this
def supSB (st : Stmt) (p : Str) : Bool :=
  decide ((((defArgs st).posonlyargs ++ (defArgs st).args).head?.map fun a => a.arg) = some ("self" : Str)) && decide ((defScope st).kind = .function) && !(defScope st).isCoroutine && !(defScope st).isGenerator && decide ((defScope st).names.lookup ("super" : Str) = some .globalImplicit) &&
  decide ((defScope st).names.lookup ("__class__" : Str) = some .free) && decide ((defScope st).names.lookup ("self" : Str) = some .local) && decide ((defScope st).names.lookup p = some .local) && (defScope st).names.all (fun y => !decide (y.2 = .cell)) &&
  (defScope st).names.all (fun y => !decide (y.2 = .free) || decide (y.1 = ("__class__" : Str))) && !decide (p = ("self" : Str)) && !decide (p = ("code" : Str)) && !(p == ("__debug__" : Str)) && !(p == ("__classdict__" : Str))
theorem supS_by {st : Stmt} {p : Str} (h : supSB st p = true) : SupS st p := by
  unfold supSB at h
  simp only [Bool.and_eq_true, Bool.not_eq_true', decide_eq_true_eq, decide_eq_false_iff_not] at h
  obtain ⟨⟨⟨⟨⟨⟨⟨⟨⟨⟨⟨⟨⟨h1, h2⟩, h3⟩, h4⟩, h5⟩, h6⟩, h7⟩, h8⟩, h9⟩, h10⟩, h11⟩, h12⟩, h13⟩, h14⟩ := h
  obtain ⟨ar, e1, e2⟩ := Option.map_eq_some_iff.mp h1
  refine ⟨⟨ar, e1, e2⟩, h2, h3, h4, h5, h6, h7, h8, fun y hy => ?_, lookup_all h10, h11, h12, h13, h14⟩
  have := List.all_eq_true.mp h9 y hy
  simpa using this
theorem errC_mk {P : Program} {K : Fr} {mg : Str → Option Value} {C fI cc cda N : Addr} {m p nm q qual : Str} {st : Stmt} {bs bm : List Value} {sn : List Str} {sub : List Value} {ab : Bool} {col : Option Bool} {dd od ccd cld an : Option Addr} {m0 m1 m2 m3 m5 : Option Value} {oc kV doc pm ct ccl cl : Value} {osl ccs csl : Array (Option Value)} {vs : Array Value}
    (S : SupS st p) (B : SupB (defBody st) m p) (hbind : ∀ kV doc pm an cd ct cc us, us.length = 2 → bindArgs (ksFn "__init__" qual (defArgs st) (defBody st) (defScope st) .none kV doc pm an cd ct cc) ⟨us, []⟩ = pure ((["self", p] : List Str).zip us))
    (htop : (P.main.scope.names.lookup ("super" : Str)).isSome = false) (sup : mg "super" = none)
    (xL : K.lookup C = some (excClassObj nm q C N bs bm true sn sub ab col dd m0 m1 m2 m3 m5 "ValueError.__new__")) (hbm : PySem.HandSPX.refsVE bm = true)
    (sa : findIn K (.ref C) "__setattr__" = some (some (.builtin "object.__setattr__"))) (exC : subIn K (.ref C) (.type "BaseException") = some true) (tyC : typeIn K (.ref C) = some (.type "type")) (kC : keepIn K (.ref C) = true)
    (iC : findIn K (.ref C) "__init__" = some (some (.ref fI))) (tI : typeIn K (.ref fI) = some (.type "function"))
    (lI : K.lookup fI = some ⟨oc, od, .func (ksFn "__init__" qual (defArgs st) (defBody st) (defScope st) .none kV doc pm an (.ref cda) ct cc), osl⟩) (cI : codeIn K (.ref cda) qual = true) (lc : K.lookup cda = some ⟨ccl, ccd, .fields vs, ccs⟩)
    (hf : ∃ f tf, vs[2]? = some (.str f tf) ∧ ((P.main.file : Str) == f) = true) (lcell : K.lookup cc = some ⟨cl, cld, .cell (some (.ref C)), csl⟩) (hmro : mroIn K C (.ref C) = some true) (thi : nsIn K cStatics "thirdparty.any" = some none)
    (par : ks_superIn K C C "__init__" = some (some (.builtin "ValueError.__init__"))) (sbV : subIn K (.ref C) (.type "ValueError") = some true) (nC : findIn K (.ref C) "code" = some none) (nP : findIn K (.ref C) p = some none) : ErrC P K mg C m p := by
  have ex : OexC K C := ⟨⟨nm, q, N, bs, bm, sn, sub, ab, col, dd, m0, m1, m2, m3, m5, xL, hbm⟩, sa, exC, tyC, kC⟩
  obtain ⟨f, tf, hf1, hf2⟩ := hf
  refine ⟨ex, fI, cc, cda, qual, defArgs st, defBody st, defScope st, _, ⟨ex, ⟨_, _, _, _, _, _, _, _, rfl, lI⟩, cI, S.hp, ⟨_, _, _, _, _, _, lc, hf1, hf2⟩, ⟨_, _, _, lcell⟩, hmro, sup, htop, thi, par, sbV, S.sK, S.sC, S.sG, S.sS, S.sL, S.sE, S.sP, S.sN, S.sF, S.nP⟩, B, nC, nP, S.pc, S.pd, S.pe, iC, tI, Binds.all fun us hl => hbind _ _ _ _ _ _ _ us hl⟩
theorem exm_one {K : Fr} {C S : Addr} {b : Bool} (h1 : subIn K (.ref S) (.type "BaseException") = some true) (h2 : isClsIn K S = true) (h3 : typeIn K (.ref S) = some (.type "type")) (h4 : subIn K (.ref C) (.ref S) = some b) : exmOne K (.ref C) (.ref S) = some b := by
  have e1 : (subIn K (.ref S) (.type "BaseException") == some true) = true := by rw [h1] <;> rfl
  have e2 : ((clsIn K S).isSome && typeIn K (.ref S) == some (.type "type")) = true := by
    have h2' : (clsIn K S).isSome = true := h2
    rw [h2', h3] <;> rfl
  show (if (subIn K (.ref S) (.type "BaseException") == some true) = true then (if ((clsIn K S).isSome && typeIn K (.ref S) == some (.type "type")) = true then subIn K (.ref C) (.ref S) else none) else none) = some b
  rw [if_pos e1, if_pos e2]
  exact h4
theorem exm_any3 {K : Fr} {C A1 A2 A3 : Addr} {b1 b2 b3 : Bool} (h1 : exmOne K (.ref C) (.ref A1) = some b1) (h2 : exmOne K (.ref C) (.ref A2) = some b2) (h3 : exmOne K (.ref C) (.ref A3) = some b3) : exmAny K (.ref C) [.ref A1, .ref A2, .ref A3] = some (b1 || (b2 || (b3 || false))) := by
  simp only [exmAny, h1, h2, h3]
theorem ownTab_at {K : Fr} {fa c P : Addr} {h : Heap} {oc : Value} {od : Option Addr} {fd : FuncData} {osl : Array (Option Value)} {e : Value} {dd : Option Addr} {vs : Array Value} {sl : Array (Option Value)} (O : LamX.OwnTab K fa h) (l : K.lookup fa = some ⟨oc, od, .func fd, osl⟩) (hc : fd.code = .ref c) (lc : K.lookup c = some ⟨e, dd, .fields vs, sl⟩) (h11 : vs[11]? = some (.ref P)) :
    h.get? P = some { cls := .none, data := .fields #[] } := O c P _ fd e dd vs sl l rfl hc lc h11
end
end G

set_option Elab.async false
set_option linter.all false
set_option maxRecDepth 100000
set_option maxHeartbeats 4000000
namespace G
open PySem L2 PySem.W PySem.Calls PySem.Spec PyProof.Rows
variable [TabNm]
/-! lambdas that are handed on: the function's words; dv: the tuple of its defaults -/
structure LF where
  params : Arguments
  body : Expr
  scope : Scope
  qual : Str
  cl : List (Str × Addr)
  dv : Option Addr
  c : Addr
def dvV : Option Addr → Value
  | none => .none
  | some t => .ref t
abbrev LF.fd (F : LF) (doc pm ctv : Value) : FuncData := kdv_fn "<lambda>" F.qual F.params (.expr F.body) F.scope F.cl (dvV F.dv) doc pm (.ref F.c) ctv
def LamO (f : Addr) (F : LF) : HO := .ext fun h => ∃ doc pm ctv : Value, h.get? f = some ({ cls := .type "function", data := .func (F.fd doc pm ctv) } : Obj)
theorem lamO_ne {f : Addr} {F : LF} (ps : Array Value) : LamO f F ≠ .tbl ps := fun z => by
  unfold LamO at z
  cases z
theorem lamO_at {P : Program} {w : World} {H : Hp} {h : Heap} {f : Addr} {F : LF} (hok : HOk P w H h) (e : H f = some (LamO f F)) : ∃ doc pm ctv : Value, h.get? f = some ({ cls := .type "function", data := .func (F.fd doc pm ctv) } : Obj) := by
  obtain ⟨z, _, _⟩ := hok f _ e
  exact z
theorem lamC_at {P : Program} {w : World} {H : Hp} {h : Heap} {c : Addr} {q : Str} (hok : HOk P w H h) (e : H c = some (LamX.CodeO c q)) : h.CodeRec (.ref c) q := by
  obtain ⟨⟨oc, vs, t, h1, h2, h3⟩, _, _⟩ := hok c _ e
  exact ⟨c, oc, vs, t, rfl, h1, h2, h3⟩
/-- the captured cells, in a heap that stands: σ tells what they hold -/
structure CellB (base : Heap) (cl : List (Str × Addr)) (N : List Str) (sc : Scope) (σ : L2.St) : Prop where
  len : σ.length = N.length
  inj : ∀ x y c, cl.lookup x = some c → cl.lookup y = some c → x = y
  has : ∀ x, sc.names.lookup x = some .free → ∃ c, cl.lookup x = some c
  all : ∀ x c, cl.lookup x = some c → ∃ v, base.IsCell c v
  val : ∀ (i : Nat) (x : Str) (v : V), N[i]? = some x → σ[i]? = some (some v) → sc.names.lookup x = some .free → ∃ c u, cl.lookup x = some c ∧ RelV v u ∧ base.IsCell c (some u)
/-- a lambda's names: captured ones, its parameters ps -/
structure LScope (N : List Str) (ps : List Str) (sc : Scope) : Prop where
  kind : sc.kind = .function
  co : sc.isCoroutine = false
  gen : sc.isGenerator = false
  nocell : ∀ y ∈ sc.names, y.2 ≠ .cell
  par : ∀ x ∈ ps, sc.names.lookup x = some .local
  apart : ∀ x ∈ N, sc.names.lookup x ≠ some .local
def lscB (N ps : List Str) (sc : Scope) : Bool :=
  decide (sc.kind = .function) && !sc.isCoroutine && !sc.isGenerator && sc.names.all (fun y => !decide (y.2 = .cell)) && ps.all (fun x => decide (sc.names.lookup x = some .local)) && N.all (fun x => !decide (sc.names.lookup x = some .local))
theorem lscope_by {N ps : List Str} {sc : Scope} (h : lscB N ps sc = true) : LScope N ps sc := by
  unfold lscB at h
  simp only [Bool.and_eq_true, Bool.not_eq_true', decide_eq_true_eq, List.all_eq_true, decide_eq_false_iff_not] at h
  obtain ⟨⟨⟨⟨⟨h1, h2⟩, h3⟩, h4⟩, h5⟩, h6⟩ := h
  exact ⟨h1, h2, h3, h4, h5, h6⟩
abbrev lamEnvB (F : LF) (f L : Addr) : Env := envX F.qual F.scope L f (.ref F.c) F.cl
def lamCxB (P : Program) (w : World) (K : Fr) (mg : Str → Option Value) (base : Heap) (N : List Str) (F : LF) (f : Addr) (A : Around) (outer : List Env) (s : Shared) (H : Hp) (E : XK) : Cx where
  prog := P
  w := w
  K := K
  mg := mg
  base := base
  A := A.deeper (lamEnvB F f s.heap.objs.size)
  N := N
  s_0 := s
  H_0 := H
  env := lamEnvB F f s.heap.objs.size
  outer := outer
  stack := lamEnvB F f s.heap.objs.size :: outer
  ex := []
  fn := fun _ => false
  calm := true
  pn := []
  xe := fun e s' => wpAny (model P w) (A.deeper (lamEnvB F f s.heap.objs.size)) (leaving (lamEnvB F f s.heap.objs.size) e) (fun _ s'' => L2N.CX P w outer H s E e s'') (fun e' s'' => L2N.CX P w outer H s E e' s'') s'
section
variable {P : Program} {w : World} {K : Fr} {mg : Str → Option Value} {base : Heap} {N ps : List Str} {F : LF} {f : Addr} {A : Around} {outer : List Env} {s : Shared} {H : Hp} {E : XK} {σ : L2.St}
theorem lam_inv {h1 : Heap} {tk : Nat} {binds : List (Str × Value)} (S : LScope N ps F.scope) (hd : A.handled = none) (e0 : Env0 P w K mg base A outer s H) (C : CellB base F.cl N F.scope σ)
    (hns : h1.Ns s.heap.objs.size fun y => binds.reverse.lookup y) (kp : ∀ b o, s.heap.get? b = some o → h1.get? b = some o) : Inv (lamCxB P w K mg base N F f A outer s H E) [] σ H { s with heap := h1, toks := tk } := by
  have nA : ∀ b : Addr, b ∉ (lamCxB P w K mg base N F f A outer s H E).ex := fun b z => absurd (show b ∈ ([] : List Addr) from z) (by simp)
  have bk : ∀ {c : Addr} {v : Option Value}, base.IsCell c v → h1.IsCell c v := fun {c v} ⟨o, ho, hd⟩ => ⟨o, kp _ _ (e0.bs _ _ ho).1, hd⟩
  constructor
  · constructor
    · exact e0.mod
    · exact S.kind
    · rfl
    · rfl
    · exact Nat.le_refl _
    · exact C.inj
    · intro x hx
      have hx' : F.scope.names.lookup x = some .cell ∨ F.scope.names.lookup x = some .free := hx
      rcases hx' with hx' | hx'
      · exact absurd rfl (S.nocell _ (PySem.mem_of_lookup hx'))
      · exact C.has x hx'
    · intro x c h
      exact absurd (show false = true from h) (by decide)
    · exact fun _ => hd
    · exact Around.frames_deeper e0.frames
    · exact .inr ⟨rfl, rfl⟩
    · exact fun b z => absurd z (nA b)
    · exact e0.bs
    · exact e0.bsz
    · exact fun b _ _ => nA b
    · exact fun b z => absurd z (nA b)
    · exact e0.funs
    · exact e0.frf
  · rfl
  · exact e0.bare
  · exact Un.kept kp
  · refine ⟨_, hns, fun i x v e1 e2 e3 => ?_⟩
    have e1' : N[i]? = some x := e1
    have e3' : Vis F.scope x := e3
    rcases e3' with k | k | k
    · exact absurd k (S.apart x (List.mem_of_getElem? e1'))
    · exact absurd rfl (S.nocell _ (PySem.mem_of_lookup k))
    · obtain ⟨c, u, hc, r, z⟩ := C.val i x v e1' e2 k
      exact ⟨u, r, .inr ⟨.inr k, c, hc, bk z⟩⟩
  · intro x c h
    obtain ⟨v, z⟩ := C.all x c h
    exact ⟨v, bk z⟩
  · exact e0.hok.fresh (Nat.le_refl _)
  · intro x c h
    obtain ⟨v, o, ho, _⟩ := C.all x c h
    exact (e0.bs _ _ ho).2
  · intro q hq
    exact absurd (show q ∈ ([] : List (Addr × Obj)) from hq) (by simp)
  · exact e0.hok.kept kp
  · exact C.len
/-- the lambda called -/
theorem lam_run {k : Nat} {tb : TE} {Q : VK} (S : LScope N ps F.scope) (hr : Room (k + 1) A) (e0 : Env0 P w K mg base A outer s H) (C : CellB base F.cl N F.scope σ) (hf : H f = some (LamO f F)) (hc : H F.c = some (LamX.CodeO F.c F.qual))
    (hb : ∀ doc pm ctv : Value, ∃ us : List Value, us.length = ps.length ∧ BindsTo s (F.fd doc pm ctv) ⟨[], []⟩ (ps.zip us))
    (hbody : Room k (A.deeper (lamEnvB F f s.heap.objs.size)) → PE (lamCxB P w K mg base N F f A outer s H E) F.body tb) (ht : tb σ H Q) :
    codeAny (model P w) A (.call (.ref f) ⟨[], []⟩) (CR (L2N.CX P w) outer P w H s Q E) s := by
  obtain ⟨doc, pm, ctv, ho⟩ := lamO_at e0.hok hf
  obtain ⟨us, hl, hbs⟩ := hb doc pm ctv
  refine kla_callFunE hr.depth ho rfl S.co S.gen rfl (lamC_at e0.hok hc) (hbs _ _ _ _ ?_)
  refine wpAny_newFunctionEnv S.nocell (fun ⟨n, v⟩ hy => S.par n (List.of_mem_zip hy).1) (fun h1 hns hsb => ?_) S.kind
  have kp : ∀ b o, s.heap.get? b = some o → h1.get? b = some o := fun b o e => hsb.extBut b o (Nat.ne_of_lt (Heap.lt_size e)) (Heap.get?_push_of_some _ e)
  have lim : s.heap.NoLimit := e0.mod.nolimit.keeps fun b o e => (e0.bs b o e).1
  refine ⟨lim.fresh _ hsb, ?_⟩
  have I : Inv (lamCxB P w K mg base N F f A outer s H E) [] σ H { s with heap := h1, toks := s.toks + (ps.zip us).length } := lam_inv S hr.hd e0 C hns kp
  show codeAny _ _ (.expr F.body (lamEnvB F f s.heap.objs.size)) _ _
  refine kla_codeExpr (wpAny_mono ((hbody (hr.deeper _)).run [] _ σ H Q I ht) (fun v s' hq => ?_) fun e s' hq => hq)
  obtain ⟨v', H', J, rv, q⟩ := hq
  exact ⟨v', H', J.os, J.bare, J.base, J.hok, rv, q⟩
end
/-- the maker's cells, in a heap that stands -/
structure CellE (base : Heap) (cells : List (Str × Addr)) (N : List Str) (sc : Scope) (σ : L2.St) : Prop where
  len : σ.length = N.length
  inj : ∀ x y c, cells.lookup x = some c → cells.lookup y = some c → x = y
  has : ∀ x, sc.names.lookup x = some .cell → ∃ c, cells.lookup x = some c
  all : ∀ x c, cells.lookup x = some c → ∃ v, base.IsCell c v
  val : ∀ (i : Nat) (x : Str) (v : V), N[i]? = some x → σ[i]? = some (some v) → sc.names.lookup x = some .cell → ∃ c u, cells.lookup x = some c ∧ RelV v u ∧ base.IsCell c (some u)
theorem CellE.to {base : Heap} {cells : List (Str × Addr)} {N : List Str} {sc scope : Scope} {σ : L2.St} (C : CellE base cells N sc σ) (hfree : ∀ y ∈ scope.names, y.2 = .free → sc.names.lookup y.1 = some .cell) :
    CellB base (cloFrom cells scope.names []) N scope σ := by
  have hf : ∀ y ∈ scope.names, y.2 = .free → ∃ c, cells.lookup y.1 = some c := fun y hy e => C.has _ (hfree y hy e)
  have cm : ∀ {y c}, (cloFrom cells scope.names []).lookup y = some c → cells.lookup y = some c := fun {y c} e => NdefX.clo_cm hf e
  have look : ∀ {y}, scope.names.lookup y = some .free → ∃ c, (cloFrom cells scope.names []).lookup y = some c := fun {y} hl => by
    have hy : (y, NameKind.free) ∈ scope.names := PySem.mem_of_lookup hl
    exact mem_lookup (cloFrom_has (cells := cells) (acc := []) hy)
  refine ⟨C.len, fun x y c h1 h2 => C.inj x y c (cm h1) (cm h2), fun x h => look h, fun x c h => C.all x c (cm h), fun i x v e1 e2 h => ?_⟩
  obtain ⟨c, u, h1, r, z⟩ := C.val i x v e1 e2 (hfree _ (PySem.mem_of_lookup h) rfl)
  obtain ⟨c2, h2⟩ := look h
  have h3 := cm h2
  rw [h1] at h3
  cases h3
  exact ⟨c, u, h2, r, z⟩
/-- a lambda that stands at f; os: the objects that must stand; tb: what its call reads -/
structure LE where
  cells : List (Str × Addr)
  N : List Str
  sc : Scope
def leOf (X : Cx) : LE := ⟨X.env.cells, X.N, X.env.scope⟩
/-- the name of the lambdas of a def -/
def lamQ (qual : Str) : Str := qual ++ ".<locals>." ++ "<lambda>"
structure Thunk (P : Program) (w : World) (K : Fr) (mg : Str → Option Value) (k : Nat) (le : LE) (f : Addr) (os : List (Addr × HO)) (tb : XK → TE) : Prop where
  fo : ∃ F, (f, LamO f F) ∈ os
  run : ∀ (base : Heap) (σ : L2.St) (A : Around) (outer : List Env) (s : Shared) (H : Hp) (Q : VK) (E : XK), CellE base le.cells le.N le.sc σ → Room k A → Env0 P w K mg base A outer s H → (∀ p ∈ os, H p.1 = some p.2) → tb E σ H Q →
    codeAny (model P w) A (.call (.ref f) ⟨[], []⟩) (CR (L2N.CX P w) outer P w H s Q E) s
structure LamStep (I H I1 H1 : Hp) (Pt : Addr) (q : Str) (os : List (Addr × HO)) : Prop where
  im : Same I I1
  ok : Same I1 H1
  tb : TabI I1 H1 Pt q
  os : ∀ p ∈ os, I1 p.1 = some p.2
  kp : ∀ b u, b ≠ Pt → H b = some u → H1 b = some u
  fr : ∀ b, I b = none → H b ≠ none → I1 b = none
def tLamB (P : Program) (w : World) (K : Fr) (mg : Str → Option Value) (k : Nat) (le : LE) (Pt : Addr) (q : Str) (tb : XK → TE) : TE := fun σ H Q =>
  ∃ I, Same I H ∧ TabI I H Pt q ∧ ∀ f os I1 H1, Thunk P w K mg k le f os tb → LamStep I H I1 H1 Pt q os → Q (.ref f) H1
section
variable {X : Cx} {pins : List (Addr × Obj)} {σ : L2.St} {H I : Hp} {s : Shared}
theorem lam_tail {c Pt : Addr} {params : Arguments} {body : Expr} {scope : Scope} {pos : Pos} {dv : Option Addr} {q : Str} {E : Value → Shared → Prop} {Q : Value → Shared → Prop} (J : Inv X pins σ H s) (TB : LamX.TabB X.base X.mg c Pt) (hcode : X.env.code = .ref c)
    (sI : Same I H) (ti : TabI I H Pt q) (hfree : ∀ y ∈ scope.names, y.2 = .free → ∃ c, X.env.cells.lookup y.1 = some c)
    (h : ∀ (f c' : Addr) (I1 H1 : Hp) (s' : Shared), Inv X pins σ H1 s' → LamStep I H I1 H1 Pt q [(f, LamO f ⟨params, body, scope, q, cloFrom X.env.cells scope.names [], dv, c'⟩), (c', LamX.CodeO c' q)] → Q (.ref f) s') :
    wpAny (model X.prog X.w) X.A (makeTail "<lambda>" q params (.expr body) scope X.env (dvV dv) .none none pos pos.line) Q E s := by
  obtain ⟨ps, hP, ht, ha⟩ := ti.tab
  have bP : s.heap.BuiltinsAt X.mg Pt := TB.bm.keeps J.bk
  have hP' : s.heap.get? Pt = some { cls := .none, data := .fields ps } := J.hok Pt _ hP
  cases hc : codeAmong pos ps.toList with
  | none =>
    refine kdv_makeTail (mg := X.mg) (c := c) (P := Pt) (ps := ps) (closure_ok hfree) J.ok.glob (J.mod.glob.keeps J.bk) hcode (TB.code.keeps J.bk) hP' ht hc TB.gP bP fun c' ctv doc h' tk hx hge hlt hrec htb => ?_
    obtain ⟨c2, oc, vs, t, e2, hoc, hd, hv⟩ := hrec
    cases e2
    have nC : H c' = none := J.hok.fresh hge
    have J1 := LamX.inv_table (q := q) (t' := tk) (more := #[rawInt pos.line, rawInt pos.col, .ref c']) (h' := h') J hP (fun b o hb e => hx b o hb e) htb hge ⟨oc, vs, t, hoc, hd, hv⟩
    have fN : (upd (upd H Pt (.tbl (ps ++ #[rawInt pos.line, rawInt pos.col, .ref c']))) c' (LamX.CodeO c' q)) h'.objs.size = none := J1.hok.fresh (Nat.le_refl _)
    have J2 := J1.laid (a := h'.objs.size) (o := LamO h'.objs.size ⟨params, body, scope, q, cloFrom X.env.cells scope.names [], dv, c'⟩) (t' := tk)
      (h' := h'.push (kdv_obj "<lambda>" q params (.expr body) scope (cloFrom X.env.cells scope.names []) (dvV dv) doc ((X.mg "__name__").getD .none) c' ctv)) (fun b u e => Heap.get?_push_of_some _ e) (Nat.le_refl _)
      ⟨⟨doc, _, ctv, Heap.get?_push_size _ rfl⟩, ⟨_, Heap.get?_push_size _ rfl⟩, fun h1 h2 ⟨d1, p1, t1, z⟩ st => ⟨d1, p1, t1, st _ z⟩⟩
    have nPc : c' ≠ Pt := fun z => by rw [z, hP] at nC; cases nC
    have nf : h'.objs.size ≠ c' := Nat.ne_of_gt hlt
    have nfP : h'.objs.size ≠ Pt := fun z => by
      rw [upd_ne nf, z, upd_same] at fN
      cases fN
    have fH : H h'.objs.size = none := by
      rw [upd_ne nf, upd_ne nfP] at fN
      exact fN
    have sub : ∀ {b : Addr} {u : HO}, I b = some u → b ≠ Pt ∧ b ≠ c' ∧ b ≠ h'.objs.size := fun {b u} e => ⟨(fun z => by rw [z, ti.out] at e; cases e), ne_of_none (sI _ _ e) nC, ne_of_none (sI _ _ e) fH⟩
    refine h h'.objs.size c' (upd (upd I c' (LamX.CodeO c' q)) h'.objs.size (LamO h'.objs.size ⟨params, body, scope, q, cloFrom X.env.cells scope.names [], dv, c'⟩)) _ _ J2 ⟨fun b u e => ?_, fun b u e => ?_, ⟨?_, ps ++ #[rawInt pos.line, rawInt pos.col, .ref c'], ?_, ?_, fun p' cv hcv => ?_⟩, fun p hp => ?_, fun b u hb e => ?_, fun b e n => ?_⟩
    · obtain ⟨_, n2, n3⟩ := sub e
      rw [upd_ne n3, upd_ne n2]
      exact e
    · by_cases b1 : b = h'.objs.size
      · rw [b1, upd_same] at e ⊢
        exact e
      · rw [upd_ne b1] at e ⊢
        by_cases b2 : b = c'
        · rw [b2, upd_same] at e ⊢
          exact e
        · rw [upd_ne b2] at e ⊢
          rw [upd_ne (sub e).1]
          exact sI _ _ e
    · rw [upd_ne (Ne.symm nfP), upd_ne (Ne.symm nPc)]
      exact ti.out
    · rw [upd_ne (Ne.symm nfP), upd_ne (Ne.symm nPc), upd_same]
    · rw [Array.toList_append]
      exact PySem.TriplesOk_snoc _ _ _ _ ht
    · rw [Array.toList_append] at hcv
      rcases LamX.among_app _ ht hcv with z | z
      · obtain ⟨c0, e1, e2⟩ := ha p' cv z
        obtain ⟨_, n2, n3⟩ := sub e2
        exact ⟨c0, e1, by rw [upd_ne n3, upd_ne n2]; exact e2⟩
      · exact ⟨c', z, by rw [upd_ne (Ne.symm nf), upd_same]⟩
    · rcases List.mem_cons.mp hp with rfl | hp
      · exact upd_same
      · rcases List.mem_cons.mp hp with rfl | hp
        · show upd (upd I c' _) _ _ c' = _
          rw [upd_ne (Ne.symm nf), upd_same]
        · cases hp
    · rw [upd_ne (ne_of_none e fH), upd_ne (ne_of_none e nC), upd_ne hb]
      exact e
    · have b1 : b ≠ h'.objs.size := fun z => n (by rw [z]; exact fH)
      have b2 : b ≠ c' := fun z => n (by rw [z]; exact nC)
      rw [upd_ne b1, upd_ne b2]
      exact e
  | some cv =>
    obtain ⟨c', e, hco⟩ := ha pos cv hc
    subst e
    refine kdv_makeTailHit (mg := X.mg) (c := c) (P := Pt) (ps := ps) (closure_ok hfree) J.ok.glob (J.mod.glob.keeps J.bk) hcode (TB.code.keeps J.bk) hP' ht hc bP fun ctv doc h' tk hx hsz => ?_
    have J1 : Inv X pins σ H { s with heap := h', toks := tk } := J.kept hx
    have fH : H h'.objs.size = none := J1.hok.fresh (Nat.le_refl _)
    have J2 := J1.laid (a := h'.objs.size) (o := LamO h'.objs.size ⟨params, body, scope, q, cloFrom X.env.cells scope.names [], dv, c'⟩) (t' := tk)
      (h' := h'.push (kdv_obj "<lambda>" q params (.expr body) scope (cloFrom X.env.cells scope.names []) (dvV dv) doc ((X.mg "__name__").getD .none) c' ctv)) (fun b u e => Heap.get?_push_of_some _ e) (Nat.le_refl _)
      ⟨⟨doc, _, ctv, Heap.get?_push_size _ rfl⟩, ⟨_, Heap.get?_push_size _ rfl⟩, fun h1 h2 ⟨d1, p1, t1, z⟩ st => ⟨d1, p1, t1, st _ z⟩⟩
    have sub : ∀ {b : Addr} {u : HO}, I b = some u → b ≠ h'.objs.size := fun {b u} e => ne_of_none (sI _ _ e) fH
    refine h h'.objs.size c' (upd I h'.objs.size (LamO h'.objs.size ⟨params, body, scope, q, cloFrom X.env.cells scope.names [], dv, c'⟩)) _ _ J2 ⟨fun b u e => ?_, sameBoth sI, ⟨?_, ps, ?_, ht, fun p' cv hcv => ?_⟩, fun p hp => ?_, fun b u hb e => ?_, fun b e n => ?_⟩
    · rw [upd_ne (sub e)]
      exact e
    · rw [upd_ne (ne_of_none hP fH)]
      exact ti.out
    · rw [upd_ne (ne_of_none hP fH)]
      exact hP
    · obtain ⟨c0, e1, e2⟩ := ha p' cv hcv
      exact ⟨c0, e1, by rw [upd_ne (sub e2)]; exact e2⟩
    · rcases List.mem_cons.mp hp with rfl | hp
      · exact upd_same
      · rcases List.mem_cons.mp hp with rfl | hp
        · show upd I _ _ c' = _
          rw [upd_ne (sub hco)]
          exact hco
        · cases hp
    · rw [upd_ne (ne_of_none e fH)]
      exact e
    · have b1 : b ≠ h'.objs.size := fun z => n (by rw [z]; exact fH)
      rw [upd_ne b1]
      exact e
end
def lfrB (sc scope : Scope) : Bool := scope.names.all fun y => !decide (y.2 = .free) || decide (sc.names.lookup y.1 = some .cell)
theorem lfr_by {sc scope : Scope} (h : lfrB sc scope = true) : ∀ y ∈ scope.names, y.2 = .free → sc.names.lookup y.1 = some .cell := by
  unfold lfrB at h
  simp only [List.all_eq_true, Bool.or_eq_true, Bool.not_eq_true', decide_eq_true_eq, decide_eq_false_iff_not] at h
  exact fun y hy e => (h y hy).elim (fun z => absurd e z) id
theorem LamStep.more {I H I1 H1 I2 H2 : Hp} {Pt : Addr} {q : Str} {os : List (Addr × HO)} {T : Addr} {o : HO} (hP : H Pt ≠ none) (hT : H T = none) (sI : Same I H) (e1 : I1 = upd I T o) (e2 : H1 = upd H T o) (h : LamStep I1 H1 I2 H2 Pt q os) : LamStep I H I2 H2 Pt q ((T, o) :: os) := by
  subst e1 e2
  refine ⟨fun b u e => h.im _ _ ((sameUpd sI hT) _ _ e), h.ok, h.tb, fun p hp => ?_, fun b u hb e => h.kp b u hb ((sameNew hT) _ _ e), fun b e n => ?_⟩
  · rcases List.mem_cons.mp hp with rfl | hp
    · exact h.im _ _ upd_same
    · exact h.os p hp
  · have : b ≠ T := fun z => n (by rw [z]; exact hT)
    exact h.fr b (by rw [upd_ne this]; exact e) (by rw [upd_ne this]; exact n)
section
variable {X : Cx} {c Pt : Addr} {k : Nat} {params : Arguments} {body : Expr} {scope : Scope} {pos : Pos} {tb : XK → TE}
/-- lambda: body -/
theorem pe_lamB {P : Program} {w : World} {K : Fr} {mg : Str → Option Value} {le : LE} {q : Str} (hP : X.prog = P) (hw : X.w = w) (hK : X.K = K) (hmg : X.mg = mg) (hle : leOf X = le) (hq : X.env.qual ++ "<lambda>" = q) (TB : LamX.TabB X.base X.mg c Pt) (hcode : X.env.code = .ref c) (hS : lscB X.N [] scope = true) (hfr : lfrB X.env.scope scope = true) (hdef : defaultsOf params X.env = ([], [])) (hkw : params.kwonlyargs = [])
    (hbind : ∀ (q : Str) (cl : List (Str × Addr)) (c' : Addr) (doc pm ctv : Value), bindArgs (LF.fd ⟨params, body, scope, q, cl, none, c'⟩ doc pm ctv) ⟨[], []⟩ = pure [])
    (hbody : ∀ (base : Heap) (cl : List (Str × Addr)) (dv : Option Addr) (c' f : Addr) (A : Around) (outer : List Env) (s : Shared) (H : Hp) (E : XK), Room k (A.deeper (lamEnvB ⟨params, body, scope, X.env.qual ++ "<lambda>", cl, dv, c'⟩ f s.heap.objs.size)) →
      PE (lamCxB X.prog X.w X.K X.mg base X.N ⟨params, body, scope, X.env.qual ++ "<lambda>", cl, dv, c'⟩ f A outer s H E) body (tb E)) :
    PE X (.Lambda params body scope pos) (tLamB P w K mg (k + 1) le Pt q tb) := by
  subst hP hw hK hmg hle hq
  refine ⟨fun pins s σ H Q I h => ?_⟩
  obtain ⟨I0, sI, ti, h⟩ := h
  have hfree := lfr_by hfr
  refine kla_eval hdef ?_
  rw [makeFunction_eq, hkw]
  simp only [List.zip_nil_left, List.filterMap_nil, List.isEmpty_nil, if_true, pure_bind]
  refine lam_tail (dv := none) I TB hcode sI ti (fun y hy e => I.ok.has _ (.inl (hfree y hy e))) fun f c' I1 H1 s' J st => ?_
  refine ⟨.ref f, H1, J, rfl, h f _ I1 H1 ⟨⟨_, List.mem_cons_self⟩, fun base σ' A outer s2 H2 Q2 E2 C hr e0 ho ht => ?_⟩ st⟩
  exact lam_run (ps := []) (lscope_by hS) hr e0 (C.to hfree) (ho _ List.mem_cons_self) (ho _ (List.mem_cons_of_mem _ List.mem_cons_self)) (fun doc pm ctv => ⟨[], rfl, .of_eq (hbind _ _ _ doc pm ctv)⟩) (fun hr2 => hbody base _ none c' f A outer s2 H2 E2 hr2) ht
/-- lambda y=0: body -/
theorem pe_lamD {y : Str} {j : Nat} {n : Int} {dpos : Pos} {P : Program} {w : World} {K : Fr} {mg : Str → Option Value} {le : LE} {q : Str} (hP : X.prog = P) (hw : X.w = w) (hK : X.K = K) (hmg : X.mg = mg) (hle : leOf X = le) (hq : X.env.qual ++ "<lambda>" = q) (TB : LamX.TabB X.base X.mg c Pt) (hcode : X.env.code = .ref c) (hS : lscB X.N [y] scope = true) (hfr : lfrB X.env.scope scope = true) (hdef : defaultsOf params X.env = ([eval (.Constant (.int n) j dpos) X.env], [])) (hkw : params.kwonlyargs = [])
    (hbind : ∀ (q : Str) (cl : List (Str × Addr)) (c' T : Addr) (doc pm ctv v : Value), ∃ kk, bindArgs (LF.fd ⟨params, body, scope, q, cl, some T, c'⟩ doc pm ctv) ⟨[], []⟩ = seqItems? (.ref T) >>= kk ∧ kk (some [v].toArray) = pure [(y, v)])
    (hbody : ∀ (base : Heap) (cl : List (Str × Addr)) (dv : Option Addr) (c' f : Addr) (A : Around) (outer : List Env) (s : Shared) (H : Hp) (E : XK), Room k (A.deeper (lamEnvB ⟨params, body, scope, X.env.qual ++ "<lambda>", cl, dv, c'⟩ f s.heap.objs.size)) →
      PE (lamCxB X.prog X.w X.K X.mg base X.N ⟨params, body, scope, X.env.qual ++ "<lambda>", cl, dv, c'⟩ f A outer s H E) body (tb E)) :
    PE X (.Lambda params body scope pos) (tLamB P w K mg (k + 1) le Pt q tb) := by
  subst hP hw hK hmg hle hq
  refine ⟨fun pins s σ H Q I h => ?_⟩
  obtain ⟨I0, sI, ti, h⟩ := h
  have hfree := lfr_by hfr
  rw [arm_eval_Lambda, hdef]
  show wpAny _ _ (do let dv ← evalAll [eval (.Constant (.int n) j dpos) X.env]; let kdv ← holding dv (evalAllOpt []); makeFunction "<lambda>" (X.env.qual ++ "<lambda>") params (.expr body) scope X.env dv kdv [] pos pos.line) _ _ s
  refine wpAny_bind (evalAll_cons (wpAny_mono ((pe_int (X := X) (i := n) (j := j) (pos := dpos)).run pins s σ H (fun v H1 => v = .int n ∧ H1 = H) I ⟨rfl, rfl⟩) (fun u s1 hu => ?_) fun _ _ z => z))
  obtain ⟨v, H1, J, rv, rfl, rfl⟩ := hu
  refine evalAll_nil (wpAny_bind (wpAny_holding (wpAny_pure ?_)))
  rw [makeFunction_eq, hkw]
  simp only [List.zip_nil_left, List.filterMap_nil, List.isEmpty_nil, List.isEmpty_cons, Bool.false_eq_true, if_true, if_false, pure_bind]
  refine wpAny_bind (wpAny_newTextTuple ?_)
  have hT : H1 s1.heap.objs.size = none := J.hok.fresh (Nat.le_refl _)
  have J1 := J.laid (a := s1.heap.objs.size) (o := .tup [.int n]) (t' := s1.toks) (h' := s1.heap.push { cls := .type "tuple", data := .seq [u].toArray }) (fun b o e => Heap.get?_push_of_some _ e) (Nat.le_refl _) ⟨(by rw [sizeLine_eq]; show 1 ≤ _; omega), [u], .cons rv .nil, ⟨_, Heap.get?_push_size _ rfl, rfl, _, rfl⟩⟩
  have hP : H1 Pt ≠ none := by
    obtain ⟨ps, z, _⟩ := ti.tab
    rw [z]
    exact fun z => by cases z
  refine lam_tail (dv := some s1.heap.objs.size) J1 TB hcode (sameBoth sI) (ti.pu (Pu.new sI hT)) (fun y hy e => I.ok.has _ (.inl (hfree y hy e))) fun f c' I1 H2 s' J2 st => ?_
  refine ⟨.ref f, H2, J2, rfl, h f _ I1 H2 ⟨⟨_, List.mem_cons_of_mem _ List.mem_cons_self⟩, fun base σ' A outer s2 H3 Q2 E2 C hr e0 ho ht => ?_⟩ (st.more hP hT sI rfl rfl)⟩
  refine lam_run (ps := [y]) (lscope_by hS) hr e0 (C.to hfree) (ho _ (List.mem_cons_of_mem _ List.mem_cons_self)) (ho _ (List.mem_cons_of_mem _ (List.mem_cons_of_mem _ List.mem_cons_self))) (fun doc pm ctv => ?_) (fun hr2 => hbody base _ _ c' f A outer s2 H3 E2 hr2) ht
  have e3 : H3 s1.heap.objs.size = some (.tup [.int n]) := ho _ List.mem_cons_self
  obtain ⟨_, us, rr, ob, g1, g2, n2, g3⟩ := e0.hok _ _ e3
  cases rr with
  | cons r1 r2 =>
    cases r2
    rename_i u2
    obtain ⟨kk, b1, b2⟩ := hbind (X.env.qual ++ "<lambda>") (cloFrom X.env.cells scope.names []) c' s1.heap.objs.size doc pm ctv u2
    exact ⟨[u2], rfl, BindsTo.of_defaults (T := s1.heap.objs.size) (items := [u2].toArray) rfl g1 g3 b1 b2⟩
end
/-! a call that gets lambdas: the cells stand from its start to its end, so they are of its base -/
section
variable {X : Cx} {pins : List (Addr × Obj)} {σ : L2.St} {H : Hp} {s : Shared}
theorem base_cells (I : Inv X pins σ H s) (hfn : ∀ x, X.fn x = true) : ∃ B : Heap, (∀ b o, X.base.get? b = some o → B.get? b = some o) ∧ Env0 X.prog X.w X.K X.mg B X.A X.stack s H ∧ CellE B X.env.cells X.N X.env.scope σ := by
  obtain ⟨p, hp⟩ : ∃ p : Addr → Bool, p = fun b => (X.base.get? b).isSome || @decide (∃ x, X.env.cells.lookup x = some b) (Classical.propDecidable _) := ⟨_, rfl⟩
  obtain ⟨L, hL⟩ : ∃ L : List Addr, L = (List.range s.heap.objs.size).filter fun b => !p b := ⟨_, rfl⟩
  have inL : ∀ b, b ∈ L ↔ b < s.heap.objs.size ∧ p b = false := fun b => by
    rw [hL, List.mem_filter, List.mem_range]
    simp
  have yes : ∀ b o, s.heap.get? b = some o → p b = true → (hideAll s.heap L).get? b = some o := fun b o e h => hideAll_get _ e fun z => by
    rw [((inL b).mp z).2] at h
    cases h
  have back : ∀ b o, (hideAll s.heap L).get? b = some o → s.heap.get? b = some o ∧ p b = true := fun b o e => by
    have e1 := of_hideAll _ e
    refine ⟨e1, ?_⟩
    cases q : p b with
    | true => rfl
    | false =>
      rw [hideAll_none _ ((inL b).mpr ⟨Heap.lt_size e1, q⟩)] at e
      cases e
  have cellAt : ∀ {b : Addr}, p b = true → X.base.get? b = none → ∃ x, X.env.cells.lookup x = some b := fun {b} h n => by
    rw [hp] at h
    simpa only [n, Option.isSome_none, Bool.false_or, decide_eq_true_eq] using h
  have pC : ∀ {x : Str} {c : Addr}, X.env.cells.lookup x = some c → p c = true := fun {x c} h => by
    rw [hp]
    show ((X.base.get? c).isSome || @decide (∃ x, X.env.cells.lookup x = some c) (Classical.propDecidable _)) = true
    rw [Bool.or_eq_true]
    exact .inr (@decide_eq_true _ (Classical.propDecidable _) ⟨x, h⟩)
  have kb : ∀ b o, X.base.get? b = some o → (hideAll s.heap L).get? b = some o := fun b o e => yes b o (I.bk b o e) (by rw [hp]; simp [e])
  have cB : ∀ {x : Str} {c : Addr} {v : Option Value}, X.env.cells.lookup x = some c → s.heap.IsCell c v → (hideAll s.heap L).IsCell c v := fun {x c v} h ⟨o, ho, hd⟩ => ⟨o, yes _ _ ho (pC h), hd⟩
  obtain ⟨ml, hml, hlook⟩ := I.loc
  have noCell : ∀ {b : Addr} {x : Str}, b ∈ frs X.stack → X.env.cells.lookup x = some b → False := fun {b x} hb hx => by
    rcases List.mem_cons.mp (I.stkSub b hb) with z | z
    · obtain ⟨v, o, ho, hd⟩ := I.cell x b hx
      obtain ⟨o2, es, ep, ho2, hd2, _⟩ := hml
      rw [z] at ho
      rw [ho] at ho2
      cases ho2
      rw [hd] at hd2
      cases hd2
    · obtain ⟨_, o, ho, _⟩ := I.ok.funs.mem z
      exact absurd (Nat.lt_of_lt_of_le (Heap.lt_size ho) (I.ok.cab x b (hfn x) hx)) (Nat.lt_irrefl _)
  refine ⟨hideAll s.heap L, kb, ⟨I.ok.frames, ⟨I.mod.kin.keeps kb, I.mod.glob.keeps kb, ?_, I.mod.nolimit.keeps kb⟩, fun b o e => ?_, Nat.le_of_eq (hideAll_size _ _), funFrames_none I.stack fun b hb => ?_, I.stkFree, I.hok, I.bare⟩, ⟨I.len, I.ok.inj, fun x h => I.ok.has x (.inl h), fun x c h => ?_, fun i x v e1 e2 k => ?_⟩⟩
  · obtain ⟨mb, h1, h2⟩ := I.mod.blt
    exact ⟨mb, h1.keeps kb, h2⟩
  · obtain ⟨e1, e2⟩ := back b o e
    refine ⟨e1, ?_⟩
    cases q : X.base.get? b with
    | some o2 => exact (I.bs b o2 q).2
    | none =>
      obtain ⟨x, hx⟩ := cellAt e2 q
      exact I.freeC x b hx
  · cases q : (hideAll s.heap L).get? b with
    | none => rfl
    | some o =>
      obtain ⟨e1, e2⟩ := back b o q
      obtain ⟨n1, _⟩ := I.stack.mem hb
      obtain ⟨x, hx⟩ := cellAt e2 n1
      exact (noCell hb hx).elim
  · obtain ⟨v, z⟩ := I.cell x c h
    exact ⟨v, cB h z⟩
  · obtain ⟨u, r, l⟩ := hlook i x v e1 e2 (.inr (.inl k))
    rcases l with ⟨z, _⟩ | ⟨_, c, hc, hcell⟩
    · have z' : X.env.scope.names.lookup x = some .local := z
      rw [k] at z'
      cases z'
    · exact ⟨c, u, hc, r, cB hc hcell⟩
end
/-- f(e, ..), f's promise told of the base with the cells in it -/
def tCallL (le : LE) (sp : Heap → Sp) (E : L2.St → XK) (t : TA) : TE := fun σ H Q => t σ H fun vs H1 => ∀ B : Heap, CellE B le.cells le.N le.sc σ → sp B vs H1 Q (E σ)
section
variable {X : Cx} {CX : CXT} {x : Str} {p pos : Pos} {e : Expr} {es : List Expr} {t : TA} {k : Nat} {f : Addr} {fd : FuncData} {ps : List Str} {sp : Heap → Sp} {E : L2.St → XK}
theorem pe_callL {le : LE} (hle : leOf X = le) (C : ∀ B : Heap, Cal X.prog X.w X.K X.mg B CX k x f fd ps (sp B)) (hr : Room k X.A) (hx : ∀ σ, PassesAt CX X σ (E σ)) (ha : PA X (e :: es) t) (hfn : ∀ x, X.fn x = true := by exact fun _ => rfl) (hg : Gl X x := by rfl) (hdb : (x == ("__debug__" : Str)) = false := by decide)
    (he : starEach (e :: es) X.env = (false, eval e X.env) :: starEach es X.env := by rfl) (hpl : (backTo pos (starEach es X.env)).any (·.1) = false := by rfl) :
    PE X (.Call (.Name x p) (e :: es) [] pos) (tCallL le sp E t) := by
  subst hle
  refine ⟨fun pins s σ H Q I h => wpAny_Call_Name_kw (ld_glob I hg (C X.base).g ?_ hdb)⟩
  refine PySem.W.callWith_K (h₀ := X.base) I.ok.mod.kin (C X.base).kp (thn (ha.run pos pins s σ H _ I h) fun us s1 ⟨vs, H1, I1, r, q⟩ => ⟨I1.kIn, ?_⟩) he hpl
  obtain ⟨B, _, e0, ce⟩ := base_cells I1 hfn
  have q1 := q B ce
  have bb := (C X.base).b s1 us I1.kIn (by rw [List.append_nil, ← r.length]; exact (C B).ok.len _ _ _ _ q1)
  rw [List.append_nil] at bb
  refine wpAny_call (codeAny_mono ((C B).ok.run X.A X.stack s1 H1 ⟨us, []⟩ us vs Q (E σ) hr e0 bb r q1) fun r s' hq => ?_)
  cases r with
  | error e => exact hx σ pins H1 s1 e s' I1 hq
  | ok fl =>
    cases fl with
    | ret u => exact I1.after hq
    | next => exact False.elim hq
    | brk => exact False.elim hq
    | cont => exact False.elim hq
/-- x(), x a name that holds a lambda -/
def tAsk (P : Program) (w : World) (K : Fr) (mg : Str → Option Value) (base : Heap) (k i : Nat) (E : L2.St → XK) : TE := fun σ H Q => ∃ f os tb le σ0, σ[i]? = some (some (V.ref f)) ∧ Thunk P w K mg k le f os tb ∧ CellE base le.cells le.N le.sc σ0 ∧ (∀ p ∈ os, H p.1 = some p.2) ∧ tb (E σ) σ0 H Q
theorem pe_ask {i : Nat} {W : WX} (tk : L2N.Takes X W) (hr : Room k X.A) (hN : X.N[i]? = some x) (hv : Vis X.env.scope x) (hd : (x == ("__debug__" : Str)) = false := by decide) (hcd : (x == ("__classdict__" : Str)) = false := by decide) :
    PE X (.Call (.Name x p) [] [] pos) (tAsk X.prog X.w X.K X.mg X.base k i (WE W)) := by
  refine ⟨fun pins s σ H Q I h => ?_⟩
  obtain ⟨f, os, tb, le, σ0, hs, T, ce, ho, ht⟩ := h
  refine wpAny_Call_Name_kw (thn ((pe_var (pos := p) (i := i) hN hv hd hcd).run pins s σ H (fun v H1 => v = .ref f ∧ H1 = H) I ⟨.ref f, hs, rfl, rfl⟩) fun u s1 ⟨v, H1, I1, r1, q1⟩ => ?_)
  obtain ⟨rfl, rfl⟩ := q1
  obtain rfl : u = Value.ref f := r1
  obtain ⟨F, hF⟩ := T.fo
  obtain ⟨doc, pm, ctv, hobj⟩ := lamO_at I1.hok (ho _ hF)
  refine PySem.W.callWith_F0 (first := []) ⟨_, _, _, _, hobj⟩ ?_
  refine wpAny_call (codeAny_mono (T.run X.base σ0 X.A X.stack s1 H1 Q (WE W σ) ce hr I1.env0 ho ht) fun r s' hq => ?_)
  cases r with
  | error e => exact L2N.passAt tk σ pins H1 s1 e s' I1 hq
  | ok fl =>
    cases fl with
    | ret u => exact I1.after hq
    | next => exact False.elim hq
    | brk => exact False.elim hq
    | cont => exact False.elim hq
end
/-! exceptions: nothing leaves; calls of defs that may raise -/
theorem takesN {X : Cx} : L2N.Takes X (fun _ _ _ _ => False) := fun _ _ x => by
  obtain ⟨_, _, _, _, _, _, _, _, _, _, _, _, _, _, _, _, z⟩ := x
  exact z.elim
theorem pe_calS {X : Cx} {x : Str} {p pos : Pos} {e : Expr} {es : List Expr} {t : TA} {k : Nat} {f : Addr} {fd : FuncData} {ps : List Str} {sp : Sp} {V0 : WX} (C : Cal X.prog X.w X.K X.mg X.base (L2N.CX X.prog X.w) k x f fd ps sp) (tk : L2N.Takes X V0) (hr : Room k X.A) (ha : PA X (e :: es) t)
    (hg : Gl X x := by rfl) (hdb : (x == ("__debug__" : Str)) = false := by decide) (he : starEach (e :: es) X.env = (false, eval e X.env) :: starEach es X.env := by rfl) (hpl : (backTo pos (starEach es X.env)).any (·.1) = false := by rfl) :
    PE X (.Call (.Name x p) (e :: es) [] pos) (tCallS sp (WE V0) t) := pe_callS C.ok hr hg C.g C.kp C.b (fun σ => L2N.passAt tk σ) ha hdb he hpl
section
variable {P : Program} {w : World} {K : Fr} {mg : Str → Option Value} {base : Heap} {x qual : Str} {st : Stmt} {f : Addr} {fd : FuncData} {N ps : List Str} {k : Nat} {sp : Sp}
theorem okE (F : Fun K x qual st f fd) (S : FnScope N ps (defScope st)) (len : ∀ vs H Q E, sp vs H Q E → vs.length = ps.length)
    (hbody : ∀ (cdv : Value) (A : Around) (outer : List Env) (s : Shared) (H : Hp) (vs : List V) (Q : VK) (E : XK), Room k (A.deeper (envOfC qual (defScope st) s.heap.objs.size f cdv)) → sp vs H Q E →
      ∃ t, PSs (cxOf (L2N.CX P w) P w K mg base N qual (defScope st) f cdv A outer s H E) (defBody st) t ∧ t { nx := fun _ H' => Q .non H', rt := Q } (start N vs) H) : FnOk P w K mg base (L2N.CX P w) (k + 1) f fd ps sp := by
  obtain ⟨oc, od, kV, doc, pm, an, cdv, ct, osl, rfl, lk, hcd⟩ := F.ex
  exact fn_of lk hcd S len fun A outer s H vs Q E hr hsp => hbody cdv A outer s H vs Q E hr hsp
theorem okP {p : Addr × Obj} (F : Fun K x qual st f fd) (S : FnScope N ps (defScope st)) (len : ∀ vs H Q E, sp vs H Q E → vs.length = ps.length)
    (hbody : ∀ (cdv : Value) (A : Around) (outer : List Env) (s : Shared) (H : Hp) (vs : List V) (Q : VK) (E : XK), L2H.RoomH k (A.deeper (envOfC qual (defScope st) s.heap.objs.size f cdv)) → sp vs H Q E →
      ∃ t, PSs (L2H.cxH (fun _ _ _ _ _ _ => False) P w K mg base N qual (defScope st) f cdv A outer s H E p) (defBody st) t ∧ t { nx := fun _ H' => Q .non H', rt := Q } (L2.start N vs) H) : FnP P w K mg base (k + 1) f fd ps p sp := by
  obtain ⟨oc, od, kV, doc, pm, an, cdv, ct, osl, rfl, lk, hcd⟩ := F.ex
  exact fn_ofP lk hcd S len fun A outer s H vs Q E hr hsp => hbody cdv A outer s H vs Q E hr hsp
/-- a def that holds lambdas: its code object is c -/
structure FunT (K : Fr) (x qual : Str) (st : Stmt) (f : Addr) (fd : FuncData) (c : Addr) : Prop where
  ex : ∃ (oc : Value) (od : Option Addr) (kV doc pm : Value) (an : Option Addr) (ct : Value) (osl : Array (Option Value)),
    fd = PySem.W.fnOf x qual (defArgs st) (defBody st) (defScope st) .none kV doc pm an (.ref c) ct ∧ K.lookup f = some ⟨oc, od, .func fd, osl⟩ ∧ PySem.W.codeIn K (.ref c) qual = true
  kp : PySem.W.keepIn K (.ref f) = true
theorem FunT.fn {c : Addr} (F : FunT K x qual st f fd c) : Fun K x qual st f fd := by
  obtain ⟨oc, od, kV, doc, pm, an, ct, osl, e, lk, hcd⟩ := F.ex
  exact ⟨⟨oc, od, kV, doc, pm, an, .ref c, ct, osl, e, lk, hcd⟩, F.kp⟩
theorem FunT.ok {c : Addr} (F : FunT K x qual st f fd c) (S : FnScope N ps (defScope st)) (len : ∀ vs H Q E, sp vs H Q E → vs.length = ps.length)
    (hbody : ∀ (A : Around) (outer : List Env) (s : Shared) (H : Hp) (vs : List V) (Q : VK) (E : XK) (le : LE), leOf (cxOf CX0 P w K mg base N qual (defScope st) f (.ref c) A outer s H E).nox = le → Room k (A.deeper (envOfC qual (defScope st) s.heap.objs.size f (.ref c))) → sp vs H Q E →
      ∃ t, PSs (cxOf CX0 P w K mg base N qual (defScope st) f (.ref c) A outer s H E).nox (defBody st) t ∧ t { nx := fun _ H' => Q .non H', rt := Q } (start N vs) H) : FnOk P w K mg base CX0 (k + 1) f fd ps sp := by
  obtain ⟨oc, od, kV, doc, pm, an, ct, osl, rfl, lk, hcd⟩ := F.ex
  refine fn_of lk hcd S len fun A outer s H vs Q E hr hsp => ?_
  obtain ⟨t, h, q⟩ := hbody A outer s H vs Q E _ rfl hr hsp
  exact ⟨t, h.nox, q⟩
end
/-! the errors and what a law makes of them -/
def ErrFs : List (Str × Str) := [("InvalidWord", "position"), ("InvalidText", "position"), ("InvalidCount", "given"), ("InvalidCopies", "given"), ("InvalidCapacity", "given"), ("TooLong", "limit"), ("TooMany", "limit"), ("Full", "limit"), ("Unbalanced", "letter"), ("InvalidImage", "letter"), ("NotUndoable", "letter"), ("InUse", "user"), ("InvalidPage", "line"),
  ("InvalidName", "name"), ("WrongKind", "name"), ("DuplicateName", "name"), ("Circular", "name"), ("UnknownName", "name"), ("InvalidStrip", "index"), ("InvalidPatch", "index"), ("InvalidWeight", "index"), ("InvalidSurface", "index"), ("InvalidCommand", "index")]
structure XcM (K : Fr) (mg : Str → Option Value) (C : Addr) (m p : Str) : Prop where
  exm : ∃ HE UN NL : Addr, mg "HemError" = some (.ref HE) ∧ mg "UnknownName" = some (.ref UN) ∧ mg "NothingLeft" = some (.ref NL) ∧ exmAny K (.ref C) [.ref HE, .ref UN, .ref NL] = some true
  rc : XRd K C "code"
  rp : XRd K C p
  fs : (m, p) ∈ ErrFs
/-- the error m with the field p, v, leaves by E -/
def Raised (K : Fr) (mg : Str → Option Value) (m p : Str) (v : V) (E : XK) (H : Hp) : Prop := ∀ C d, XcM K mg C m p → H d = none → E (.ref C) (some d) (upd H d (.xd [(p, v), ("code", .str m)]))
def sp_l_field (K : Fr) (a : Addr) (cls : Value) (od : Option Addr) : Sp := fun vs H Q _ => vs = [.ref a] ∧ ∃ (C d : Addr) (m f : Str) (v : V), cls = .ref C ∧ od = some d ∧ XRd K C "code" ∧ XRd K C f ∧ (m, f) ∈ ErrFs ∧ H d = some (.xd [(f, v), ("code", .str m)]) ∧ ∀ H', Same H H' → Q v H'
def tXatA (K : Fr) (a : Addr) (cls : Value) (od : Option Addr) (f : Str) (te : TE) : TE := fun σ H Q => te σ H fun x H1 => x = .ref a ∧ ∃ (C d : Addr) (fs : List (Str × V)) (v : V), cls = .ref C ∧ od = some d ∧ XRd K C f ∧ H1 d = some (.xd fs) ∧ fs.lookup f = some v ∧ Q v H1
theorem pe_xatA {X : Cx} {a : Addr} {oe : Obj} {cls : Value} {od : Option Addr} {e : Expr} {te : TE} {f : Str} {pos : Pos} (hp : (a, oe) ∈ X.pn) (hz : L2N.Zn cls od oe) (hw : ∃ ws, oe.data = .fields ws) (he : PE X e te) (hb : attributeBase e f X.env (eval e X.env) = eval e X.env := by rfl) :
    PE X (.Attribute e f pos) (tXatA X.K a cls od f te) := by
  refine ⟨fun pins s σ H Q I h => attr_of hb (thn (he.run pins s σ H _ I h) fun u s1 hh => ?_)⟩
  obtain ⟨x, H1, I1, rx, rfl, C, d, fs, v, rfl, rfl, R, ea, hl, q⟩ := hh
  obtain rfl : u = Value.ref a := rx
  have hx : ObjOk X.prog X.w H1 s1.heap d (.xd fs) := I1.hok d _ ea
  obtain ⟨mA, hns, hr⟩ := hx
  obtain ⟨od, ho, hlk⟩ := lookIn_ns hns
  obtain ⟨u, hu, ru⟩ := RelO.some_of (v := v) (o := mA f) (by rw [← hl]; exact hr f)
  obtain ⟨ws, hw⟩ := hw
  have J : PySem.W.InstAt s1.heap a oe C (some od) := ⟨(I1.pin (a, oe) (List.mem_append_left _ hp)).1, hz.1, by unfold PySem.W.notCls; rw [hw] <;> rfl, by rw [hz.2.1]; exact ho⟩
  exact HandSPX.exc_get I1.kIn J R.ga R.gg R.exC (PySem.W.findObj_own R.hd R.no rfl (by rw [hlk, hu])) (handed_of ru) ⟨v, H1, I1.tok _, ru, q⟩
def sp_l_try (P : Program) (w : World) (K : Fr) (mg : Str → Option Value) (k : Nat) (base : Heap) : Sp := fun vs H Q _ => ∃ f os tb le σ0, vs = [V.ref f] ∧ Thunk P w K mg k le f os tb ∧ CellE base le.cells le.N le.sc σ0 ∧ (∀ p ∈ os, H p.1 = some p.2) ∧
  ∀ (Q1 : VK) (E1 : XK), (∀ v H1, (∀ p, H1 p = none → Q (.ref p) (upd H1 p (.tup [.str "value", v]))) → Q1 v H1) →
    (∀ cls dd H1, (∃ (C d : Addr) (m fl : Str) (v : V), cls = .ref C ∧ dd = some d ∧ XcM K mg C m fl ∧ H1 d = some (.xd [(fl, v), ("code", .str m)]) ∧ ∀ H2, Same H1 H2 → ∀ p, H2 p = none → Q (.ref p) (upd H2 p (.tup [.str m, v]))) → E1 cls dd H1) → tb E1 σ0 H Q1
inductive Out
  | val (d : PyData)
  | err (m : Str) (d : PyData)
def Out.data : Out → PyData
  | .val d => .tuple [.str "value", d]
  | .err m d => .tuple [.str m, d]
/-- the call of the lambda at f ends so, wherever I stands -/
def ThR (P : Program) (w : World) (K : Fr) (mg : Str → Option Value) (k : Nat) (base : Heap) (I : Hp) (f : Addr) (o : Out) : Prop := ∃ os tb le σ0, Thunk P w K mg k le f os tb ∧ CellE base le.cells le.N le.sc σ0 ∧ (∀ p ∈ os, I p.1 = some p.2) ∧
  ∀ (I' H : Hp) (Q : VK) (E : XK), Same I I' → Same I' H → (∀ v I1 H1 d, o = .val d → Pu I' H I1 H1 → Dp K I1 v d → Q v H1) → (∀ m d fl v I1 H1, o = .err m d → (m, fl) ∈ ErrFs → Pu I' H I1 H1 → Dp K I1 v d → Raised K mg m fl v E H1) → tb E σ0 H Q
theorem ThR.mono {P : Program} {w : World} {K : Fr} {mg : Str → Option Value} {k : Nat} {base : Heap} {I J : Hp} {f : Addr} {o : Out} (h : ThR P w K mg k base I f o) (s : Same I J) : ThR P w K mg k base J f o := by
  obtain ⟨os, tb, le, σ0, T, c, ho, r⟩ := h
  exact ⟨os, tb, le, σ0, T, c, fun p hp => s _ _ (ho p hp), fun I' H Q E s1 s2 => r I' H Q E (s.trans s1) s2⟩
theorem ThR.try_ {P : Program} {w : World} {K : Fr} {mg : Str → Option Value} {k : Nat} {base : Heap} {I H : Hp} {f : Addr} {o : Out} {Q : VK} {E : XK} (h : ThR P w K mg k base I f o) (sI : Same I H) (q : ∀ v I' H', Pu I H I' H' → Dp K I' v o.data → Q v H') :
    sp_l_try P w K mg k base [.ref f] H Q E := by
  obtain ⟨os, tb, le, σ0, T, c, ho, r⟩ := h
  refine ⟨f, os, tb, le, σ0, rfl, T, c, fun p hp => sI _ _ (ho p hp), fun Q1 E1 hQ hE => r I H Q1 E1 (fun _ _ e => e) sI ?_ ?_⟩
  · rintro v I1 H1 d rfl pu dv
    refine hQ _ _ fun p hp => ?_
    exact q _ _ _ (pu.trans (Pu.new pu.ok hp)) (dpNewT (.cons (.str _) (.cons (dpm dv (sameUpd pu.ok hp)) .nil)))
  · rintro m d fl v I1 H1 rfl hf pu dv C dd X hd
    refine hE _ _ _ ⟨C, dd, m, fl, v, rfl, rfl, X, upd_same, fun H2 s2 p hp => ?_⟩
    have p0 := pu.trans (Pu.newM (o := .xd [(fl, v), ("code", .str m)]) pu.ok hd)
    have p1 : Pu I H I1 H2 := p0.trans ⟨⟨fun _ _ e => e, p0.ok.trans s2, fun _ e _ => e⟩, s2⟩
    exact q _ _ _ (p1.trans (Pu.new p1.ok hp)) (dpNewT (.cons (.str _) (.cons (dpm dv (sameUpd p1.ok hp)) .nil)))
def ThRs (P : Program) (w : World) (K : Fr) (mg : Str → Option Value) (k : Nat) (base : Heap) (I : Hp) (fs : List Addr) (os : List Out) : Prop := fs.length = os.length ∧ ∀ (i : Nat) f o, fs[i]? = some f → os[i]? = some o → ThR P w K mg k base I f o
def sp_l_tries (P : Program) (w : World) (K : Fr) (mg : Str → Option Value) (k : Nat) (base : Heap) : Sp := fun vs H Q _ => ∃ (I : Hp) (L : Addr) (fs : List Addr) (os : List Out), vs = [V.ref L] ∧ Same I H ∧ SqL K I L (fs.map V.ref) ∧ fs.length ≤ 1000 ∧ ThRs P w K mg k base I fs os ∧
  ∀ v I' H', Pu I H I' H' → Dp K I' v (.list (os.map Out.data)) → Q v H'
section
variable {K : Fr} {σ : L2.St} {H : Hp} {Q : VK} {ta te : TE} {al : TA}
theorem e_callS {sp : Sp} {E : L2.St → XK} : tCallS sp E al σ H Q = al σ H (fun vs H1 => sp vs H1 Q (E σ)) := rfl
theorem e_mkE {C : Addr} {m p : Str} {Q : XK} : tMkE C m p al σ H Q = al σ H (fun vs H1 => ∃ v, vs = [v] ∧ ∀ d, H1 d = none → Q (.ref C) (some d) (upd H1 d (.xd [(p, v), ("code", .str m)]))) := rfl
theorem e_xat {p : Addr × Obj} {f : Str} : tXat K p f te σ H Q = te σ H (fun x H1 => x = .ref p.1 ∧ ∃ (C d : Addr) (fs : List (Str × V)) (v : V), p.2.cls = .ref C ∧ p.2.dict = some d ∧ (∃ ws, p.2.data = .fields ws) ∧ XRd K C f ∧ H1 d = some (.xd fs) ∧ fs.lookup f = some v ∧ Q v H1) := rfl
theorem e_callP {sp : Sp} : tCallP sp al σ H Q = al σ H (fun vs H1 => sp vs H1 Q fun _ _ _ => False) := rfl
theorem e_callL {le : LE} {sp : Heap → Sp} {E : L2.St → XK} : tCallL le sp E al σ H Q = al σ H (fun vs H1 => ∀ B : Heap, CellE B le.cells le.N le.sc σ → sp B vs H1 Q (E σ)) := rfl
end
theorem inS (m : Str) (cs : List Str) : inV (.str m) (cs.map V.str) = decide (m ∈ cs) := by
  unfold inV
  induction cs with
  | nil => rfl
  | cons a l ih =>
    rw [List.map_cons, List.any_cons, ih]
    show ((a == m) || _) = _
    rw [Bool.eq_iff_iff, Bool.or_eq_true, beq_iff_eq, decide_eq_true_eq, decide_eq_true_eq, List.mem_cons]
    exact ⟨fun h => h.imp Eq.symm id, fun h => h.imp Eq.symm id⟩
theorem flatS (cs : List Str) : (cs.map V.str).all flatV = true := by
  induction cs with
  | nil => rfl
  | cons a l ih =>
    rw [List.map_cons, List.all_cons, ih]
    rfl
/-- if e.code in (..): .. -/
theorem s_fldT {K : Fr} {p : Addr × Obj} {C d : Addr} {m f : Str} {v : V} {cs : List Str} {σ : L2.St} {H : Hp} {ta : TA} {Q : Bool → Hp → Prop} (h0 : σ[0]? = some (some (V.ref p.1))) (hc : p.2.cls = .ref C) (hd : p.2.dict = some d) (hw : ∃ ws, p.2.data = .fields ws) (rc : XRd K C "code") (hf : f ≠ "code")
    (hx : H d = some (.xd [(f, v), ("code", .str m)])) (hta : ∀ σ H (Q : List V → Hp → Prop), Q (cs.map V.str) H → ta σ H Q) (hl : cs.length ≤ 100000) (q : ∀ H', Same H H' → Q (decide (m ∈ cs)) H') :
    tTest (tOp (rIn K false) (tXat K p "code" (tVar 0)) (tTup ta)) σ H Q := by
  refine ⟨_, h0, rfl, C, d, _, .str m, hc, hd, hw, rc, hx, ?_, hta _ _ _ ⟨szle (by rw [List.length_map]; exact hl), fun r hr => ?_⟩⟩
  · have : (("code" : Str) == f) = false := beq_eq_false_iff_ne.mpr (Ne.symm hf)
    simp [List.lookup, this]
  · refine ⟨r, cs.map V.str, rfl, .inr (SqT.of upd_same), rfl, flatS cs, _, rfl, ?_⟩
    rw [if_neg Bool.false_ne_true, inS]
    exact q _ (sameNew hr)
/-- e.f -/
theorem s_fldV {K : Fr} {p : Addr × Obj} {C d : Addr} {m f : Str} {v : V} {σ : L2.St} {H : Hp} {Q : VK} (h0 : σ[0]? = some (some (V.ref p.1))) (hc : p.2.cls = .ref C) (hd : p.2.dict = some d) (hw : ∃ ws, p.2.data = .fields ws) (rf : XRd K C f)
    (hx : H d = some (.xd [(f, v), ("code", .str m)])) (q : Q v H) : tXat K p f (tVar 0) σ H Q :=
  ⟨_, h0, rfl, C, d, _, v, hc, hd, hw, rf, hx, by simp [List.lookup], q⟩
theorem s_fldC {K : Fr} {p : Addr × Obj} {C d : Addr} {m f : Str} {v : V} {σ : L2.St} {H : Hp} {Q : VK} (h0 : σ[0]? = some (some (V.ref p.1))) (hc : p.2.cls = .ref C) (hd : p.2.dict = some d) (hw : ∃ ws, p.2.data = .fields ws) (rc : XRd K C "code") (hf : f ≠ "code")
    (hx : H d = some (.xd [(f, v), ("code", .str m)])) (q : Q (.str m) H) : tXat K p "code" (tVar 0) σ H Q := by
  refine ⟨_, h0, rfl, C, d, _, .str m, hc, hd, hw, rc, hx, ?_, q⟩
  have : (("code" : Str) == f) = false := beq_eq_false_iff_ne.mpr (Ne.symm hf)
  simp [List.lookup, this]
theorem lkC {m f : Str} {v : V} (hf : f ≠ "code") : ([(f, v), (("code" : Str), V.str m)] : List (Str × V)).lookup ("code" : Str) = some (V.str m) := by
  have : (("code" : Str) == f) = false := beq_eq_false_iff_ne.mpr (Ne.symm hf)
  simp [List.lookup, this]
theorem lkF {m f : Str} {v : V} : ([(f, v), (("code" : Str), V.str m)] : List (Str × V)).lookup f = some v := by simp [List.lookup]
theorem s_fldS {K : Fr} {p : Addr × Obj} {C d : Addr} {m f X : Str} {v : V} {cs : List Str} {σ : L2.St} {H : Hp} {ta : TA} {D : Ends} {u : TS} (h0 : σ[0]? = some (some (V.ref p.1))) (hc : p.2.cls = .ref C) (hd : p.2.dict = some d) (hw : ∃ ws, p.2.data = .fields ws) (rc : XRd K C "code") (rf : XRd K C f) (hm : (m, f) ∈ ErrFs)
    (hx : H d = some (.xd [(f, v), ("code", .str m)])) (q : ∀ H', Same H H' → D.rt v H') (hta : ∀ σ H (Q : List V → Hp → Prop), Q (cs.map V.str) H → ta σ H Q) (hl : cs.length ≤ 100000) (hX : ∀ x ∈ ErrFs, x.1 ∈ cs → x.2 = X) (hno : m ∉ cs → ∀ H', Same H H' → u D σ H') :
    tSeq (tIfS (tTest (tOp (rIn K false) (tXat K p "code" (tVar 0)) (tTup ta))) (tRet (tXat K p X (tVar 0))) tNext) u D σ H := by
  have hf : f ≠ "code" := (show ∀ x ∈ ErrFs, x.2 ≠ "code" by decide +kernel) _ hm
  refine s_fldT h0 hc hd hw rc hf hx hta hl fun H' s => ?_
  by_cases h : m ∈ cs
  · rw [if_pos (decide_eq_true h)]
    obtain rfl : f = X := hX _ hm h
    exact s_fldV h0 hc hd hw rf (s _ _ hx) (q _ s)
  · rw [if_neg (by rw [decide_eq_false h]; exact Bool.false_ne_true)]
    exact hno h _ s
theorem w_lam {P : Program} {w : World} {K : Fr} {mg : Str → Option Value} {k : Nat} {le : LE} {Pt b : Addr} {q : Str} {tb : XK → TE} {σ : L2.St} {I H : Hp} {Q : VK} (wb : W b I H) (hq : TabNm.nm Pt = some q)
    (h : ∀ f os I' H', W b I' H' → Same I I' → (∀ p ∈ os, I' p.1 = some p.2) → Thunk P w K mg k le f os tb → Q (.ref f) H') : tLamB P w K mg k le Pt q tb σ H Q := by
  refine ⟨I, wb.ok, wb.tb Pt q hq, fun f os I1 H1 T st => h f os I1 H1 ⟨st.ok, ?_, ?_, fun P2 q2 h2 => ?_⟩ st.im st.os T⟩
  · exact st.fr b wb.nb wb.hb
  · obtain ⟨o, ho, hbo⟩ := wb.bag
    refine ⟨o, st.kp b o (fun z => ?_) ho, hbo.mono st.im⟩
    obtain ⟨ps, hp, _⟩ := (wb.tb Pt q hq).tab
    obtain ⟨l, ns, i, x, s, c, e, _⟩ := hbo
    rw [← z, ho, e] at hp
    cases hp
  · by_cases e : P2 = Pt
    · subst e
      rw [hq] at h2
      cases h2
      exact st.tb
    · obtain ⟨o2, ps, hp, ht, r⟩ := wb.tb P2 q2 h2
      refine ⟨st.fr P2 o2 (by rw [hp]; exact fun z => by cases z), ps, st.kp P2 _ e hp, ht, fun pos cv hc => ?_⟩
      obtain ⟨c, e1, e2⟩ := r pos cv hc
      exact ⟨c, e1, st.im _ _ e2⟩
end G

set_option Elab.async false
set_option linter.all false
set_option maxRecDepth 100000
set_option maxHeartbeats 4000000
namespace G
open PySem L2 PySem.Spec PyProof.Rows
variable [TabNm]
/-! enumerate(text) -/
def ItnS (x : Str) : It := ⟨fun i _ => i < x.cps.size, fun i H v H' => ∃ T c, v = .ref T ∧ H T = none ∧ H' = upd H T (.tup [.int (i : Nat), .str ⟨#[c]⟩]) ∧ x.cps[i]? = some c, fun i _ => i = x.cps.size⟩
theorem turn_enumS {P : Program} {w : World} {K : Fr} {elts : List Expr} {kk : Nat} {tpos : Pos} (x : Str) (t : Tok) (e it : Addr) :
    Turn P w K (.Tuple elts kk tpos) (ItnS x) [e, it] e (fun i h => (∃ old, IsEnum h e it ((i : Nat) : Int) old) ∧ h.IsStrIter it (strIterType x) x t i ∧ e ≠ it) where
  mem := by simp
  obj := fun i h st b hb => by
    obtain ⟨⟨old, he⟩, ⟨o, ho, hc, hd⟩, _⟩ := st
    have e' : b = e ∨ b = it := by simpa using hb
    rcases e' with z | z
    · rw [z]; exact ⟨_, he, fun v q => nomatch q⟩
    · rw [z]; exact ⟨o, ho, fun v q => by rw [hd] at q; cases q⟩
  keep := fun i h h' st k => by
    obtain ⟨⟨old, he⟩, ⟨o, ho, r⟩, hne⟩ := st
    exact ⟨⟨old, k e (by simp) _ he⟩, ⟨o, k it (by simp) o ho, r⟩, hne⟩
  item := by
    intro X hP hw hK hc i pins s σ H E I hf st hg
    subst hP hw hK
    obtain ⟨⟨old, he⟩, hit, hne⟩ := st
    have hel : e < s.heap.objs.size := Heap.lt_size he
    have hil : it < s.heap.objs.size := by obtain ⟨_, q, _⟩ := hit; exact Heap.lt_size q
    refine wpAny_pyNext_enum_itemD (Draws.text (A := X.A.in1) (I.ok.hd hc) it x t) he hit hg hne (by simp [hne]) fun v h1 tk hv ho hit1 hT hsz hk => ?_
    obtain ⟨c, u, hcx, rfl⟩ := hv
    refine ⟨_, rfl, wpAny_letOwnedTupleGo_enum (s := { s with heap := h1, toks := tk + 1 }) ho fun h2 he2 sb => ?_⟩
    have hT2 : h2.get? s.heap.objs.size = some { cls := .type "tuple", data := .seq #[.int i tk, .str ⟨#[c]⟩ u] } := (sb.2 _ (Nat.ne_of_gt hel)).trans hT
    have new : ObjOk X.prog X.w (upd H s.heap.objs.size (.tup [.int (i : Nat), .str ⟨#[c]⟩])) h2 s.heap.objs.size (.tup [.int (i : Nat), .str ⟨#[c]⟩]) :=
      ⟨by show 2 ≤ sizeLine; decide, [.int i tk, .str ⟨#[c]⟩ u], .cons ⟨_, rfl⟩ (.cons ⟨_, rfl⟩ .nil), ⟨_, hT2, rfl, _, rfl⟩⟩
    have I1 : Inv X pins σ (upd H s.heap.objs.size (.tup [.int (i : Nat), .str ⟨#[c]⟩])) { s with heap := h2, toks := tk + 1 } :=
      I.turnedNew (ch := [e, it]) (fun b ob hb q => (sb.2 b (fun z => hb (by simp [z]))).trans (hk b ob (fun z => hb (by simp [z])) (fun z => hb (by simp [z])) q)) hf (Nat.le_refl _) new
    obtain ⟨o1, g1, g2⟩ := hit1
    refine ⟨.ref s.heap.objs.size, _, I1, rfl, ⟨_, c, rfl, I.hok.fresh (Nat.le_refl _), rfl, hcx⟩, ⟨⟨.str ⟨#[c]⟩ u, ?_⟩, ⟨o1, (sb.2 it (Ne.symm hne)).trans g1, g2⟩, hne⟩, fun b hb => ?_⟩
    · have e1 : ((i + 1 : Nat) : Int) = (i : Int) + 1 := by omega
      rw [e1]
      exact he2
    · have hb2 : b < s.heap.objs.size := by
        rcases List.mem_cons.mp hb with z | z
        · rw [z]; exact hel
        · rw [List.mem_singleton.mp z]; exact hil
      rw [upd_ne (Nat.ne_of_lt hb2)]
      exact (hf b hb).1
  done := by
    intro X hP hw hK hc i pins s σ H E I hf st hg
    subst hP hw hK
    obtain ⟨⟨old, he⟩, hit, hne⟩ := st
    obtain ⟨f0, f1, f2, f3, f4, f5⟩ := hf it (by simp)
    have hg2 : i = x.cps.size := hg
    rw [hg2] at hit
    exact wpAny_pyNext_enum_endD (Draws.text (A := X.A.in1) (I.ok.hd hc) it x t) he hit fun h1 eb => ⟨rfl, I.turned (t' := s.toks) (fun b o hb q => eb b o hb q) f0 f1 f3 f4 f5⟩
  self := fun A i s Q E st h => by
    obtain ⟨⟨_, he⟩, _⟩ := st
    exact wpAny_pyIter_enum he h
def iEnumS (ta : TA) : TI := fun σ H R => ta σ H fun vs H1 => ∃ x, vs = [.str x] ∧ R (ItnS x) H1
theorem pi_enumS {X : Cx} {e : Expr} {ta : TA} {p pos tpos : Pos} {elts : List Expr} {kk : Nat} (hg : Gl X "enumerate") (hm : X.mg "enumerate" = none) (ha : PA X [e] ta) (hs : starEach [e] X.env = [(false, eval e X.env)] := by rfl) :
    PI X (.Tuple elts kk tpos) (.Call (.Name "enumerate" p) [e] [] pos) (iEnumS ta) := by
  refine ⟨fun pins s σ H R I h => Call_ (ld_blt I hg hm boot_enumerate (PyProof.Rows.callWith_type1 (thn (ha.run pos pins s σ H _ I h) fun us s1 ⟨vs, H1, I1, r1, x, ex, q⟩ => ?_) hs rfl))⟩
  subst ex
  cases r1 with
  | cons r rr =>
    cases rr
    obtain ⟨t, rfl⟩ := r
    refine call_enumerate_str fun h1 he hit hsz hk => wpAny_pyIter_enum he ?_
    have I2 : Inv X pins σ H1 { s1 with heap := h1 } := I1.kept (t' := s1.toks) hk
    refine ⟨s1.heap.objs.size + 1, [s1.heap.objs.size + 1, s1.heap.objs.size], _, _, H1, rfl, I2, turn_enumS x t (s1.heap.objs.size + 1) s1.heap.objs.size, ⟨⟨.none, he⟩, hit, Nat.succ_ne_self _⟩, fun b hb => ?_, q⟩
    have hle : s1.heap.objs.size ≤ b := by
      rcases List.mem_cons.mp hb with z | z
      · rw [z]; exact Nat.le_succ _
      · rw [List.mem_singleton.mp z]; exact Nat.le_refl _
    exact I1.fpOk hle (I1.hok.fresh hle)
theorem walk_enumS {x : Str} : Walk (ItnS x) x.cps.size (fun _ => True) (YPair (fun i => some (.int (i : Nat))) (fun i => (x.cps[i]?).map fun c => V.str ⟨#[c]⟩)) := by
  refine ⟨fun i _ hi _ => hi, fun _ _ => rfl, fun i H v H' _ _ y => ?_⟩
  obtain ⟨T, c, h1, h2, h3, h4⟩ := y
  exact ⟨T, .int (i : Nat), .str ⟨#[c]⟩, h1, h2, h3, rfl, by show (x.cps[i]?).map _ = _; rw [h4]; rfl⟩
/-! letters and words, by their code points -/
abbrev Sl (l : List Nat) : Str := ⟨l.toArray⟩
theorem memL {c : Nat} : c ∈ (Str.ofString "abcdABCD").cps.toList ↔ isL c = true := by
  have e : (Str.ofString "abcdABCD").cps.toList = [97, 98, 99, 100, 65, 66, 67, 68] := by decide +kernel
  rw [e]
  simp only [List.mem_cons, List.not_mem_nil, or_false, isL, Bool.or_eq_true, Bool.and_eq_true, decide_eq_true_eq]
  omega
theorem e_iEnumS {al : TA} {σ : L2.St} {H : Hp} {R : It → Hp → Prop} : iEnumS al σ H R = al σ H (fun vs H1 => ∃ x, vs = [.str x] ∧ R (ItnS x) H1) := rfl
theorem w_forE {z : Str} {g : TG} {tb : TS} {D : Ends} {σ : L2.St} {H : Hp} (Pv : Nat → L2.St → Hp → Prop) (h0 : Pv 0 σ H)
    (hs : ∀ i c σ H, z.cps[i]? = some c → Pv i σ H → ∀ N : L2.St → Hp → Prop, (∀ σ' H', Pv (i + 1) σ' H' → N σ' H') → ∀ T, H T = none → g (.ref T) σ (upd H T (.tup [.int (i : Nat), .str ⟨#[c]⟩])) fun σ2 H2 => tb { D with nx := N, ct := N, bk := D.nx } σ2 H2) (hd : ∀ σ H, Pv z.cps.size σ H → D.nx σ H) :
    FB (ItnS z) g tb D σ H := w_for walk_enumS Pv h0 (fun _ _ _ _ _ => trivial) (fun i x σ H H' hi p y N hN => by
      obtain ⟨T, a, b, h1, h2, h3, h4, h5⟩ := y
      subst h1 h3
      cases h4
      have h5 : (z.cps[i]?).map (fun c => V.str ⟨#[c]⟩) = some b := h5
      cases e : z.cps[i]? with
      | none => rw [e] at h5; cases h5
      | some c =>
        rw [e] at h5
        cases h5
        exact hs i c σ H e p N hN T h2) hd
/-! text[::-1] -/
def tRevS (te : TE) : TE := fun σ H Q => te σ H fun x H1 => ∃ l : List Nat, x = .str (Sl l) ∧ l.length ≤ sizeLine ∧ Q (.str (Sl l.reverse)) H1
theorem e_revS {te : TE} {σ : L2.St} {H : Hp} {Q : VK} : tRevS te σ H Q = te σ H (fun x H1 => ∃ l : List Nat, x = .str (Sl l) ∧ l.length ≤ sizeLine ∧ Q (.str (Sl l.reverse)) H1) := rfl
theorem rev_ix (n : Nat) : Builtin.Str.strSliceIndices none none (-1) n = (List.range n).reverse := by
  show sliceRange _ _ _ = _
  have := PySem.W.krv_sliceRange n
  rw [PySem.W.krv_range] at this
  exact this
theorem rev_pick (l : List Nat) : ((List.range l.length).reverse.filterMap (l.toArray[·]?)).toArray = l.reverse.toArray := by
  rw [List.filterMap_reverse]
  have := PySem.W.krv_all l.toArray
  have e : l.toArray.size = l.length := by simp
  rw [e] at this
  rw [this]
theorem pe_revS {X : Cx} {e : Expr} {te : TE} {j : Nat} {q1 q2 p2 pos : Pos} (he : PE X e te) : PE X (.Subscript e (.Slice none none (some (.UnaryOp .USub (.Constant (.int 1) j q1) q2)) p2) pos) (tRevS te) := by
  refine ⟨fun pins s σ H Q I h => Subscript_ (thn (he.run pins s σ H _ I h) fun v s1 ⟨x, H1, I1, r1, l, ex, hl, q⟩ => ?_)⟩
  subst ex
  obtain ⟨t, rfl⟩ := r1
  refine wpAny_Slice ?_
  rw [evalPart_none]
  refine wpAny_pure (wpAny_pure ?_)
  rw [evalPart_some]
  refine thn ((pe_un un_neg (pe_int (X := X) (i := 1) (j := j) (pos := q1)) (pos := q2)).run pins s1 σ H1 (fun v H2 => v = .int (-1) ∧ H2 = H1) I1 ⟨1, rfl, rfl, rfl⟩) fun u s2 ⟨v, H2, I2, r2, ev, eH⟩ => ?_
  subst ev eH
  obtain ⟨tk, rfl⟩ := r2
  have I4 : Inv X pins σ H2 { s2 with heap := s2.heap.push { cls := .type "slice", data := .fields #[.none, .none, .int (-1) tk] } } := I2.kept (t' := s2.toks) fun b ob q => Heap.get?_push_of_some _ q
  have hg : wpAny (model X.prog X.w) X.A (getItem (.str (Sl l) t) (.ref s2.heap.objs.size)) (EP X pins σ Q) X.xe { s2 with heap := s2.heap.push { cls := .type "slice", data := .fields #[.none, .none, .int (-1) tk] } } := by
    refine wpAny_getItem_str_slice (l := none) (u := none) (st := some (-1, tk)) ⟨_, Heap.get?_push_size _ rfl, rfl, rfl⟩ (by rfl) ?_
    show Made.post (if ((-1 : Int) == 1 && _) = true then Made.val (.str (Sl l) t) else Made.str ⟨((Builtin.Str.strSliceIndices none none (-1) (Sl l).length).filterMap ((Sl l).cps[·]?)).toArray⟩) (EP X pins σ Q) _
    rw [if_neg (by rw [show ((-1 : Int) == 1) = false by decide, Bool.false_and]; exact Bool.false_ne_true)]
    have hn : (Sl l).length = l.length := by simp [Str.length]
    have e : (⟨((Builtin.Str.strSliceIndices none none (-1) (Sl l).length).filterMap ((Sl l).cps[·]?)).toArray⟩ : Str) = Sl l.reverse := by
      rw [rev_ix, hn]
      exact congrArg Str.mk (rev_pick l)
    rw [e]
    exact ⟨by rw [show (Sl l.reverse).length = l.length by simp [Str.length]]; exact hl, .str _, H2, I4.tok _, ⟨_, rfl⟩, q⟩
  exact tail_any (ops := [.ref s2.heap.objs.size, .str (Sl l) t]) (typeIs_str _ _ _) F.slot_str_getitem.lookup hg (by with_unfolding_all rfl)

/-! texts by their code points, read by simp -/
section
variable {K : Fr} {σ : L2.St} {H : Hp} {Q : VK} {a b l : List Nat}
theorem sl_len : (Sl l).length = l.length := SX.S_len l
theorem sl_cat : Sl a ++ Sl b = Sl (a ++ b) := SX.S_cat a b
theorem sl_eq : (Sl a = Sl b) = (a = b) := propext ⟨SX.S_inj, fun h => by rw [h]⟩
theorem sl_tl : (Sl l).cps.toList = l := rfl
theorem sl_size : (Sl l).cps.size = l.length := by simp
def cutL (l : List Nat) (lo hi : Option Int) : List Nat := (l.drop (HT.sIx l.length 0 lo)).take (HT.sIx l.length l.length hi - HT.sIx l.length 0 lo)
theorem e_slSl {lo hi : Option Int} : rSlS (.str (Sl l)) lo hi H Q = (l.length ≤ sizeLine ∧ Q (.str (Sl (cutL l lo hi))) H) := by
  rw [e_slS, sl_len]
  have : cutS (Sl l) lo hi = Sl (cutL l lo hi) := by
    unfold cutS cutL
    rw [sl_len]
  rw [this]
theorem e_ixSl {m : Int} : rIxS (.str (Sl l)) (.int m) H Q = ∃ c, l.length ≤ sizeLine ∧ atI l m = some c ∧ Q (.str (Sl [c])) H := by
  rw [e_ixS]
  simp only [sl_len]
theorem cutL_to {n : Nat} : cutL l none (some (n : Int)) = l.take n := by
  unfold cutL
  rw [HT.sIx_none, HT.sIx_nat, List.drop_zero, Nat.sub_zero, List.take_eq_take_iff]
  omega
theorem cutL_from {n : Nat} : cutL l (some (n : Int)) none = l.drop n := by
  unfold cutL
  rw [HT.sIx_none, HT.sIx_nat]
  by_cases h : n ≤ l.length
  · rw [Nat.min_eq_left h, List.take_of_length_le (by rw [List.length_drop]; exact Nat.le_refl _)]
  · rw [Nat.min_eq_right (by omega), Nat.sub_self, List.take_zero, List.drop_eq_nil_of_le (by omega)]
theorem cutL_mid {m n : Nat} : cutL l (some (m : Int)) (some (n : Int)) = (l.drop m).take (n - m) := by
  unfold cutL
  rw [HT.sIx_nat, HT.sIx_nat]
  by_cases h : m ≤ l.length
  · rw [Nat.min_eq_left h, List.take_eq_take_iff, List.length_drop]
    omega
  · rw [Nat.min_eq_right (show l.length ≤ m by omega), List.drop_eq_nil_of_le (Nat.le_refl _), List.drop_eq_nil_of_le (show l.length ≤ m by omega), List.take_nil, List.take_nil]
theorem cutL_last : cutL l none (some (-1)) = l.dropLast := by
  unfold cutL
  rw [HT.sIx_none, List.drop_zero, Nat.sub_zero, List.dropLast_eq_take]
  have e : HT.sIx l.length l.length (some (-1)) = l.length - 1 := by
    unfold HT.sIx
    show (if (-1 : Int) < 0 then ((-1 : Int) + (l.length : Int)).toNat else min (-1 : Int).toNat l.length) = l.length - 1
    rw [if_pos (by decide)]
    omega
  rw [e]
theorem atI_last1 {c : Nat} : atI (l ++ [c]) (-1) = some c := atI_last l c
theorem joinE : ∀ ws : List (List Nat), Txt.join (Str.ofString "") (ws.map Sl) = Sl ws.flatten := fun ws => by
  have e : (Str.ofString "" : Str) = Sl [] := by decide +kernel
  rw [e, SX.join_S]
  congr 2
  induction ws with
  | nil => rfl
  | cons w ws ih =>
    cases ws with
    | nil => simp [TL.joinL]
    | cons v ws =>
      show w ++ ([] ++ TL.joinL [] (v :: ws)) = _
      rw [ih]
      simp
theorem joinE1 (ls : List Nat) : Txt.join (Str.ofString "") ((ls.map fun c => [c]).map Sl) = Sl ls := by
  rw [joinE]
  congr 2
  induction ls with
  | nil => rfl
  | cons c l ih => simp [ih]
theorem join0 : ∀ ws : List (List Nat), Txt.join (Sl []) (ws.map Sl) = Sl ws.flatten := fun ws => by
  have e : (Str.ofString "" : Str) = Sl [] := by decide +kernel
  rw [← e, joinE]
theorem join01 (ls : List Nat) : Txt.join (Sl []) ((ls.map fun c => [c]).map Sl) = Sl ls := by
  have e : (Str.ofString "" : Str) = Sl [] := by decide +kernel
  rw [← e, joinE1]
theorem lens1 (ls : List Nat) : ((((ls.map fun c => [c]).map Sl).map fun x => x.length).sum) = ls.length := by
  induction ls with
  | nil => rfl
  | cons c l ih =>
    rw [List.map_cons, List.map_cons, List.map_cons, List.sum_cons, ih, sl_len]
    simp only [List.length_cons, List.length_nil]
    omega
theorem e_ixD {w : World} {p : Addr} {z : Str} : rIxD K w (.ref p) (.str z) H Q = ∃ v, KDct K w p z v ∧ Q v H := propext ⟨fun ⟨p', z', v, e1, e2, r⟩ => by cases e1; cases e2; exact ⟨v, r⟩, fun ⟨v, r⟩ => ⟨p, z, v, rfl, rfl, r⟩⟩
/-- the opposites' table -/
def OppD (K : Fr) (w : World) (a : Addr) : Prop := KDct K w a "a" (.str "A") ∧ KDct K w a "b" (.str "B") ∧ KDct K w a "c" (.str "C") ∧ KDct K w a "d" (.str "D") ∧ KDct K w a "A" (.str "a") ∧ KDct K w a "B" (.str "b") ∧ KDct K w a "C" (.str "c") ∧ KDct K w a "D" (.str "d")
theorem lit1 : (Str.ofString "a" = Sl [97]) ∧ (Str.ofString "b" = Sl [98]) ∧ (Str.ofString "c" = Sl [99]) ∧ (Str.ofString "d" = Sl [100]) ∧ (Str.ofString "A" = Sl [65]) ∧ (Str.ofString "B" = Sl [66]) ∧ (Str.ofString "C" = Sl [67]) ∧ (Str.ofString "D" = Sl [68]) := by decide +kernel
theorem isL_cases {c : Nat} (h : isL c = true) : c = 97 ∨ c = 98 ∨ c = 99 ∨ c = 100 ∨ c = 65 ∨ c = 66 ∨ c = 67 ∨ c = 68 := by
  unfold isL at h
  simp only [Bool.or_eq_true, Bool.and_eq_true, decide_eq_true_eq] at h
  omega
theorem opp_at {w : World} {p : Addr} {c : Nat} (h : OppD K w p) (hc : isL c = true) : KDct K w p (Sl [c]) (.str (Sl [opN c])) := by
  obtain ⟨h1, h2, h3, h4, h5, h6, h7, h8⟩ := h
  obtain ⟨e1, e2, e3, e4, e5, e6, e7, e8⟩ := lit1
  rw [e1, e5] at h1 h5
  rw [e2, e6] at h2 h6
  rw [e3, e7] at h3 h7
  rw [e4, e8] at h4 h8
  rcases isL_cases hc with rfl | rfl | rfl | rfl | rfl | rfl | rfl | rfl
  · exact h1
  · exact h2
  · exact h3
  · exact h4
  · exact h5
  · exact h6
  · exact h7
  · exact h8
theorem w_opp {w : World} {p : Addr} {c : Nat} (h : OppD K w p) (hc : isL c = true) (q : Q (.str (Sl [opN c])) H) : rIxD K w (.ref p) (.str (Sl [c])) H Q := ⟨p, _, _, rfl, rfl, opp_at h hc, q⟩
theorem oppers {c : Nat} (h : isL c = true) : Txt.isupper (Sl [c]) = decide (c ≤ 68) ∧ (c ≤ 68 → Txt.lower (Sl [c]) = Sl [opN c]) ∧ (¬ c ≤ 68 → Txt.upper (Sl [c]) = Sl [opN c]) := by
  rcases isL_cases h with rfl | rfl | rfl | rfl | rfl | rfl | rfl | rfl <;> decide +kernel
end
/-! comprehensions -/
theorem w_lcPS {i : Nat} {f : Nat → V} {te : TE} {vs : List Nat} {σ : L2.St} {H : Hp} {L : Addr} {Q : VK} {l : List Nat} (hL : H L = none) (hlen : l.length ≤ 100000) (hw : ∀ v : V, wipe ((wipe σ vs).set i (some v)) vs = wipe σ vs)
    (hs : ∀ c ∈ l, ∀ H1 Q, Same H H1 → (∀ H2, Same H1 H2 → Q (f c) H2) → te ((wipe σ vs).set i (some (.str (Sl [c])))) H1 Q) (hd : ∀ H', Same H H' → H' L = some (.lst (l.map f)) → Q (.ref L) H') : LB (Its (Sl l)) (gName i) tYes te vs σ L Q H := by
  refine w_lcS (fun j H' => Same H H' ∧ H' L = some (.lst ((l.take j).map f))) ⟨sameNew hL, upd_same⟩ ?_ ?_
  · rintro j c H1 hc ⟨s1, e1⟩ N hN
    have hc : l[j]? = some c := hc
    refine ⟨hw _, hs c (List.mem_of_getElem? hc) H1 _ s1 fun H2 s2 => ⟨_, s2 _ _ e1, ?_, hN _ ⟨?_, ?_⟩⟩⟩
    · rw [sizeLine_eq]
      have := (List.getElem?_eq_some_iff.mp hc).1
      rw [List.length_map, List.length_take]
      omega
    · intro b u e
      rw [upd_ne (ne_of_none e hL)]
      exact s2 _ _ (s1 _ _ e)
    · rw [upd_same, List.take_succ, hc, List.map_append]
      rfl
  · rintro H1 ⟨s1, e1⟩
    rw [sl_tl, List.take_length] at e1
    exact hd _ s1 e1
/-! growth of everything but the bag and the tables of code -/
structure Go (b : Addr) (I H I' H' : Hp) : Prop where
  im : Same I I'
  w : W b I' H'
  fr : ∀ a, I a = none → H a ≠ none → I' a = none
  kp : ∀ a o, H a = some o → a ≠ b → TabNm.nm a = none → H' a = some o
theorem Go.refl {b : Addr} {I H : Hp} (w : W b I H) : Go b I H I H := ⟨fun _ _ e => e, w, fun _ e _ => e, fun _ _ e _ _ => e⟩
theorem Go.trans {b : Addr} {I H I1 H1 I2 H2 : Hp} (x : Go b I H I1 H1) (y : Go b I1 H1 I2 H2) : Go b I H I2 H2 :=
  ⟨x.im.trans y.im, y.w, fun a e n => by
    by_cases q : H1 a = none
    · cases h : H a with
      | none => exact absurd h n
      | some o =>
        by_cases hb : a = b
        · subst hb; exact y.w.nb
        · cases ht : TabNm.nm a with
          | none => have := x.kp a o h hb ht; rw [q] at this; cases this
          | some t => exact (y.w.tb a t ht).out
    · exact y.fr a (x.fr a e n) q, fun a o e nb nt => y.kp a o (x.kp a o e nb nt) nb nt⟩
theorem Go.pu {b : Addr} {I H I' H' : Hp} (w : W b I H) (p : Pu I H I' H') : Go b I H I' H' := ⟨p.im, w.pu p, p.fr, fun a o e _ _ => p.sm a o e⟩
theorem Go.same {b : Addr} {I H H' : Hp} (w : W b I H) (s : Same H H') : Go b I H I H' := .pu w ⟨⟨fun _ _ e => e, w.ok.trans s, fun _ e _ => e⟩, s⟩
theorem Go.upd {b : Addr} {I H : Hp} {o : HO} (w : W b I H) (h : BagO I o) : Go b I H I (L2.upd H b o) := ⟨fun _ _ e => e, w.upd h, fun _ e _ => e, fun a u e n _ => by rw [upd_ne n]; exact e⟩
theorem Go.but {b : Addr} {I H H' : Hp} (w : W b I H') (h : But b H H') : Go b I H I H' := ⟨fun _ _ e => e, w, fun _ e _ => e, fun a u e n _ => by rw [h a n]; exact e⟩
theorem Go.new {b : Addr} {I H : Hp} {p : Addr} {o : HO} (w : W b I H) (hp : H p = none) : Go b I H (L2.upd I p o) (L2.upd H p o) := .pu w (Pu.new w.ok hp)
theorem Go.newM {b : Addr} {I H : Hp} {p : Addr} {o : HO} (w : W b I H) (hp : H p = none) : Go b I H I (L2.upd H p o) := .pu w (Pu.newM w.ok hp)
/-- a list under way stands on -/
structure Mu (b : Addr) (I H : Hp) (L : Addr) (xs : List V) : Prop where
  at' : H L = some (.lst xs)
  nI : I L = none
  nb : L ≠ b
  nt : TabNm.nm L = none
theorem Mu.go {b : Addr} {I H I' H' : Hp} {L : Addr} {xs : List V} (m : Mu b I H L xs) (g : Go b I H I' H') : Mu b I' H' L xs := ⟨g.kp _ _ m.at' m.nb m.nt, g.fr _ m.nI (by rw [m.at']; exact fun z => by cases z), m.nb, m.nt⟩
theorem W.free {b : Addr} {I H : Hp} (w : W b I H) {p : Addr} (hp : H p = none) : I p = none ∧ p ≠ b ∧ TabNm.nm p = none := by
  refine ⟨?_, fun z => w.hb (by rw [← z]; exact hp), ?_⟩
  · cases e : I p with
    | none => rfl
    | some o => rw [w.ok _ _ e] at hp; cases hp
  · cases e : TabNm.nm p with
    | none => rfl
    | some q =>
      obtain ⟨ps, h, _⟩ := (w.tb p q e).tab
      rw [hp] at h; cases h
theorem Mu.new {b : Addr} {I H : Hp} (w : W b I H) {p : Addr} {xs : List V} (hp : H p = none) : Mu b I (L2.upd H p (.lst xs)) p xs := ⟨upd_same, (w.free hp).1, (w.free hp).2.1, (w.free hp).2.2⟩
theorem Mu.set {b : Addr} {I H : Hp} {L : Addr} {xs ys : List V} (w : W b I H) (m : Mu b I H L xs) : W b I (L2.upd H L (.lst ys)) ∧ Mu b I (L2.upd H L (.lst ys)) L ys := by
  refine ⟨⟨fun a u e => ?_, w.nb, ?_, fun P q hq => ?_⟩, ⟨upd_same, m.nI, m.nb, m.nt⟩⟩
  · have : a ≠ L := fun z => by rw [z, m.nI] at e; cases e
    rw [upd_ne this]; exact w.ok a u e
  · rw [upd_ne (Ne.symm m.nb)]; exact w.bag
  · have n : P ≠ L := fun z => by rw [z, m.nt] at hq; cases hq
    obtain ⟨o, ps, hp, r⟩ := w.tb P q hq
    exact ⟨o, ps, by rw [upd_ne n]; exact hp, r⟩
/-- .. and is a thing that stands still from now on -/
theorem Mu.fix {b : Addr} {I H0 I1 H1 : Hp} {L : Addr} {xs : List V} (hL : H0 L = none) (g : Go b I H0 I1 H1) (m : Mu b I1 H1 L xs) : Go b I H0 (L2.upd I1 L (.lst xs)) H1 := by
  have w := g.w
  have sI : Same I1 (L2.upd I1 L (.lst xs)) := fun a u e => by
    have : a ≠ L := fun z => by rw [z, m.nI] at e; cases e
    rw [upd_ne this]; exact e
  refine ⟨g.im.trans sI, ⟨fun a u e => ?_, ?_, ?_, fun P q hq => ?_⟩, fun a e n => ?_, fun a o e nb nt => ?_⟩
  · by_cases z : a = L
    · subst z; rw [upd_same] at e; cases e; exact m.at'
    · rw [upd_ne z] at e; exact w.ok a u e
  · rw [upd_ne (Ne.symm m.nb)]; exact w.nb
  · obtain ⟨o, h, r⟩ := w.bag; exact ⟨o, h, r.mono sI⟩
  · have n : P ≠ L := fun z => by rw [z, m.nt] at hq; cases hq
    obtain ⟨o, ps, hp, ht, r⟩ := w.tb P q hq
    exact ⟨by rw [upd_ne n]; exact o, ps, hp, ht, fun pos cv hc => let ⟨c, e1, e2⟩ := r pos cv hc; ⟨c, e1, sI _ _ e2⟩⟩
  · have z : a ≠ L := fun z => n (by rw [z]; exact hL)
    rw [upd_ne z]
    exact g.fr a e n
  · exact g.kp a o e nb nt
theorem Go.setM {b : Addr} {I H0 I1 H1 : Hp} {L : Addr} {xs ys : List V} (hL : H0 L = none) (g : Go b I H0 I1 H1) (m : Mu b I1 H1 L xs) : Go b I H0 I1 (L2.upd H1 L (.lst ys)) ∧ Mu b I1 (L2.upd H1 L (.lst ys)) L ys := by
  have ⟨w4, m4⟩ := Mu.set (ys := ys) g.w m
  exact ⟨⟨g.im, w4, g.fr, fun a o e nb nt => by
    have z : a ≠ L := fun z => by rw [z, hL] at e; cases e
    rw [upd_ne z]
    exact g.kp a o e nb nt⟩, m4⟩
/-- a comprehension whose parts draw: R tells of what was made so far, in the part that stands still -/
theorem w_lcW {J : It} {n : Nat} {G0 : Hp → Prop} {Y : Nat → Hp → V → Hp → Prop} {g : TG} {te : TE} {vs : List Nat} {σ : L2.St} {b L : Addr} {I H : Hp} {Q : VK} (wk : Walk J n G0 Y) (hn : n ≤ 100000) (w : W b I H) (hL : H L = none) (R : Nat → Hp → List V → Prop) (r0 : R 0 I [])
    (hG : ∀ I' H', Go b I H I' H' → G0 H')
    (hs : ∀ i x xs I1 H1 H2, i < n → Go b I H I1 H1 → Mu b I1 H1 L xs → R i I1 xs → Y i H1 x H2 → ∀ N : Hp → Prop, (∀ v I3 H3, Go b I1 H1 I3 H3 → R (i + 1) I3 (xs ++ [v]) → ∃ acc, H3 L = some (.lst acc) ∧ acc.length < sizeLine ∧ N (L2.upd H3 L (.lst (acc ++ [v])))) →
      g x (wipe σ vs) H2 fun σ2 H3 => wipe σ2 vs = wipe σ vs ∧ te σ2 H3 fun y H4 => ∃ acc, H4 L = some (.lst acc) ∧ acc.length < sizeLine ∧ N (L2.upd H4 L (.lst (acc ++ [y]))))
    (hd : ∀ xs I' H', Go b I H (L2.upd I' L (.lst xs)) H' → Same I I' → Same I' (L2.upd I' L (.lst xs)) → xs.length = n → R n I' xs → Q (.ref L) H') : LB J g tYes te vs σ L Q H := by
  refine w_lc wk (fun j H' => ∃ I' xs, Go b I H I' H' ∧ Mu b I' H' L xs ∧ xs.length = j ∧ R j I' xs) ⟨I, [], .newM w hL, Mu.new w hL, rfl, r0⟩ ?_ ?_ ?_
  · rintro i H' hi ⟨I', xs, gg, _⟩
    exact hG _ _ gg
  · rintro i x H' H2 hi ⟨I', xs, gg, m, hl, r⟩ y N hN
    refine hs i x xs I' H' H2 hi gg m r y N fun v I3 H3 g3 r3 => ?_
    have m3 := m.go g3
    have ⟨g5, m5⟩ := (gg.trans g3).setM (ys := xs ++ [v]) hL m3
    exact ⟨xs, m3.at', by rw [sizeLine_eq]; omega, hN _ ⟨I3, xs ++ [v], g5, m5, by rw [List.length_append, hl]; rfl, r3⟩⟩
  · rintro H' ⟨I', xs, gg, m, hl, r⟩
    refine hd xs I' H' (Mu.fix hL gg m) gg.im (fun a u e => ?_) hl r
    have : a ≠ L := fun z => by rw [z, m.nI] at e; cases e
    rw [upd_ne this]; exact e
/-! text * number -/
theorem fold_rep (l : List Nat) : ∀ (m : Nat) (acc : List Nat), List.foldl (fun x1 x2 => x1 ++ x2) acc.toArray (List.replicate m l.toArray) = (acc ++ (List.replicate m l).flatten).toArray
  | 0, acc => by simp
  | m + 1, acc => by
    rw [List.replicate_succ, List.foldl_cons]
    have e : acc.toArray ++ l.toArray = (acc ++ l).toArray := by simp
    rw [e, fold_rep l m (acc ++ l), List.replicate_succ, List.flatten_cons, List.append_assoc]
def rMulS : R2 := fun x y H Q => ∃ (l : List Nat) (k : Int), x = .str (Sl l) ∧ y = .int k ∧ -(2 ^ 62) ≤ k ∧ k < 2 ^ 62 ∧ l.length * k.toNat ≤ 100000 ∧ Q (.str (Sl (repL k.toNat l))) H
theorem e_mulS {l : List Nat} {k : Int} {H : Hp} {Q : VK} : rMulS (.str (Sl l)) (.int k) H Q = (-(2 ^ 62) ≤ k ∧ k < 2 ^ 62 ∧ l.length * k.toNat ≤ 100000 ∧ Q (.str (Sl (repL k.toNat l))) H) :=
  propext ⟨fun ⟨l', k', e1, e2, r⟩ => by
    cases e2
    have : l = l' := SX.S_inj (V.str.inj e1)
    subst this
    exact r, fun r => ⟨l, k, rfl, rfl, r⟩⟩
theorem op_mulSl {X : Cx} : OpR X (binaryOp .Mult) rMulS := by
  intro pins s σ H x y v u Q I rx ry h
  obtain ⟨l, k, rfl, rfl, h1, h2, hz, q⟩ := h
  unfold repL at q
  obtain ⟨t, rfl⟩ := rx
  obtain ⟨t', rfl⟩ := ry
  refine P.mul_str ?_ (fun a b => ?_) (fun a b => ?_) ?_
  · rw [Bool.or_eq_false_iff]
    exact ⟨decide_eq_false (by omega), decide_eq_false (by omega)⟩
  · rw [sl_len]
    have k0 : 0 < k := by omega
    have e : (l.length : Int) * k ≤ 100000 := by
      have : ((l.length * k.toNat : Nat) : Int) ≤ 100000 := by omega
      rw [Int.natCast_mul, Int.toNat_of_nonneg (by omega)] at this
      exact this
    have := (Int.le_ediv_iff_mul_le (a := (l.length : Int)) (b := 2 ^ 63 - 1) k0).mpr (by omega)
    omega
  · rw [sl_len]
    unfold Builtin.Str.tooLong
    rw [decide_eq_false_iff_not, sizeLine_eq]
    omega
  · have len : ((List.replicate k.toNat l).flatten).length = l.length * k.toNat := by
      rw [List.length_flatten, List.map_replicate, List.sum_replicate_nat, Nat.mul_comm]
    by_cases c1 : k < 1
    · rw [if_pos c1]
      have e0 : k.toNat = 0 := by omega
      rw [e0] at q
      exact ⟨by decide, .str _, H, I.tok _, ⟨_, rfl⟩, q⟩
    · rw [if_neg c1]
      by_cases c2 : (k == 1 || (Sl l).length == 0) = true
      · rw [if_pos c2]
        have e : (List.replicate k.toNat l).flatten = l := by
          rw [Bool.or_eq_true, beq_iff_eq, beq_iff_eq, sl_len] at c2
          rcases c2 with c2 | c2
          · subst c2
            show (List.replicate 1 l).flatten = l
            simp
          · have : l = [] := List.length_eq_zero_iff.mp c2
            subst this
            simp
        rw [e] at q
        exact ⟨.str _, H, I, ⟨_, rfl⟩, q⟩
      · rw [if_neg c2]
        have e := fold_rep l k.toNat []
        rw [List.nil_append] at e
        have e2 : (⟨List.foldl (fun x1 x2 => x1 ++ x2) #[] (List.replicate k.toNat (Sl l).cps)⟩ : Str) = Sl (List.replicate k.toNat l).flatten := congrArg Str.mk e
        rw [e2]
        exact ⟨by rw [sl_len, len, sizeLine_eq]; omega, .str _, H, I.tok _, ⟨_, rfl⟩, q⟩
/-! calls that ask a word -/
def sp_word (K : Fr) (mg : Str → Option Value) (f : List Nat → V) : Sp := fun vs H Q E => ∃ l : List Nat, vs = [.str (Sl l)] ∧ l.length ≤ 100000 ∧ (∀ i, bad l = some i → ∀ H', Same H H' → Raised K mg "InvalidWord" "position" (.int (i : Nat)) E H') ∧
  (bad l = none → 60 < l.length → ∀ H', Same H H' → Raised K mg "TooLong" "limit" (.int 60) E H') ∧ (bad l = none → l.length ≤ 60 → ∀ H', Same H H' → Q (f l) H')
theorem w_word {K : Fr} {mg : Str → Option Value} {f : List Nat → V} {l : List Nat} {H : Hp} {Q : VK} {E : XK} (al : AL l) (hl : l.length ≤ 60) (q : ∀ H', Same H H' → Q (f l) H') : sp_word K mg f [.str (Sl l)] H Q E :=
  ⟨l, rfl, by omega, fun i hi => (by rw [bad_none.mpr al] at hi; cases hi), fun _ h => absurd hl (by omega), fun _ _ => q⟩
def wordOut (l : List Nat) (d : PyData) : Out := match bad l with
  | some i => .err "InvalidWord" (.int (i : Nat))
  | none => if 60 < l.length then .err "TooLong" (.int 60) else .val d
theorem thr_word {P : Program} {w : World} {K : Fr} {mg : Str → Option Value} {k : Nat} {B : Heap} {le : LE} {f : Addr} {os : List (Addr × HO)} {g : List Nat → V} {ta : TA} {σ0 : L2.St} {I : Hp} {l : List Nat} {d : PyData}
    (T : Thunk P w K mg k le f os (fun E => tCallS (sp_word K mg g) (WE fun cls d x H => E cls d H) ta)) (ce : CellE B le.cells le.N le.sc σ0) (ho : ∀ p ∈ os, I p.1 = some p.2) (hl : l.length ≤ 100000)
    (hta : ∀ H (Q : List V → Hp → Prop), Q [.str (Sl l)] H → ta σ0 H Q) (hd : ∀ J, Dp K J (g l) d) : ThR P w K mg k B I f (wordOut l d) := by
  refine ⟨os, _, le, σ0, T, ce, ho, fun I' H Q E s1 s2 hv he => ?_⟩
  have pu : ∀ {H'}, Same H H' → Pu I' H I' H' := fun s => ⟨⟨fun _ _ e => e, s2.trans s, fun _ e _ => e⟩, s⟩
  refine hta _ _ ⟨l, rfl, hl, fun i hi H' s => ?_, fun hb h6 H' s => ?_, fun hb h6 H' s => ?_⟩
  · exact he "InvalidWord" (.int (i : Nat)) "position" _ I' H' (by unfold wordOut; rw [hi]) (by decide +kernel) (pu s) (.int _)
  · exact he "TooLong" (.int 60) "limit" _ I' H' (by unfold wordOut; rw [hb]; show (if _ then _ else _) = _; rw [if_pos h6]) (by decide +kernel) (pu s) (.int _)
  · exact hv (g l) I' H' d (by unfold wordOut; rw [hb]; show (if _ then _ else _) = _; rw [if_neg (by omega)]) (pu s) (hd I')
theorem w_rep {K : Fr} {b : Addr} {I H : Hp} {p : Addr} {xs : List V} {ds : List PyData} {k : Int} {Q : VK} (w : W b I H) (hp : I p = some (.lst xs)) (d : DpAll K I xs ds) (h0 : 0 ≤ k) (hk : xs.length * k.toNat ≤ 100000) (hk2 : k ≤ 100000)
    (q : ∀ r I' H', W b I' H' → Same I I' → I' r = some (.lst (List.replicate k.toNat xs).flatten) → Dp K I' (.ref r) (.list (List.replicate k.toNat ds).flatten) → Q (.ref r) H') : rRep (.ref p) (.int k) H Q := by
  refine ⟨p, k, xs, rfl, rfl, w.ok _ _ hp, by omega, by omega, szle hk, fun r hr => q r _ _ (w.new hr) (sameUpd w.ok hr) upd_same (dpNewL (dpmA ?_ (sameUpd w.ok hr)))⟩
  generalize k.toNat = n
  induction n with
  | zero => exact .nil
  | succ n ih => rw [List.replicate_succ, List.replicate_succ, List.flatten_cons, List.flatten_cons]; exact dpAppend d ih
theorem w_anyMk {K : Fr} {b : Addr} {I H : Hp} {xs : List V} {Q : VK} {E : XK} (w : W b I H) (h0 : 0 < xs.length) (h1 : xs.length ≤ 1000) (k : ∀ x ∈ xs, ∀ I' H', Go b I H I' H' → Q x H') : MkL xs H fun v H1 => sp_l_any K [.ref b, v] H1 Q E :=
  w_lstR (by omega) fun p hp => w_anyL (w.new hp) (.inl (SqL.of upd_same)) h0 (by omega) fun j x H' hx w' b' => k x (List.mem_of_getElem? hx) _ _ ((Go.new w hp).trans (.but w' b'))
theorem w_drawG {b : Addr} {I H : Hp} {m : Nat} {Q : VK} {E : XK} (w : W b I H) (hm : 0 < m) (hm2 : m ≤ 100000) (k : ∀ (n : Nat) H', n < m → Go b I H I H' → Q (.int n) H') : sp_l_draw [.ref b, .int m] H Q E :=
  w_drawN w hm hm2 fun n H' hn w' b' => k n H' hn (.but w' b')
theorem w_drawL {b : Addr} {I H : Hp} {m : Nat} {Q : VK} {E : XK} (w : W b I H) (hm2 : m ≤ 10000) (k : ∀ (n : Nat) H', n ≤ m → Go b I H I H' → Q (.int n) H') : sp_l_draw [.ref b, .int ((m : Nat) + 1 : Int)] H Q E :=
  w_drawG (m := m + 1) w (by omega) (by omega) fun n H' hn => k n H' (by omega)
theorem wordOut_bad {l : List Nat} {d : PyData} {i : Nat} (h : bad l = some i) : wordOut l d = .err "InvalidWord" (.int (i : Nat)) := by unfold wordOut; rw [h]
theorem wordOut_long {l : List Nat} {d : PyData} (h : AL l) (h6 : 60 < l.length) : wordOut l d = .err "TooLong" (.int 60) := by unfold wordOut; rw [bad_none.mpr h]; show (if _ then _ else _) = _; rw [if_pos h6]
theorem wordOut_ok {l : List Nat} {d : PyData} (h : AL l) (h6 : l.length ≤ 60) : wordOut l d = .val d := by unfold wordOut; rw [bad_none.mpr h]; show (if _ then _ else _) = _; rw [if_neg (by omega)]
section
variable {P : Program} {w : World} {K : Fr} {mg : Str → Option Value} {k : Nat} {B : Heap} {I : Hp}
theorem thrs_nil : ThRs P w K mg k B I [] [] := ⟨rfl, fun i f o h => by simp at h⟩
theorem thrs_cons {f : Addr} {o : Out} {fs : List Addr} {os : List Out} (h : ThR P w K mg k B I f o) (t : ThRs P w K mg k B I fs os) : ThRs P w K mg k B I (f :: fs) (o :: os) :=
  ⟨by rw [List.length_cons, List.length_cons, t.1], fun i f' o' h1 h2 => by
    cases i with
    | zero =>
      cases h1
      cases h2
      exact h
    | succ i => exact t.2 i f' o' (by simpa using h1) (by simpa using h2)⟩
theorem w_neS {H : Hp} {x y : V} {d : PyData} {Q : VK} (h1 : Dp K H x d) (h2 : Dp K H y d) (s : SeqAt.shaped d = true) (q : Q (.bl false) H) : rNeD K x y H Q :=
  w_neD h1 h2 s s (by rw [SeqAt.eqv_refl d (SeqAt.canLay_of_shaped s)]; exact q)
theorem w_eqS {H : Hp} {x y : V} {d : PyData} {Q : VK} (h1 : Dp K H x d) (h2 : Dp K H y d) (s : SeqAt.shaped d = true) (q : Q (.bl true) H) : rEqD K x y H Q :=
  w_eqD h1 h2 s s (by rw [SeqAt.eqv_refl d (SeqAt.canLay_of_shaped s)]; exact q)
end
theorem so_InvalidWord : PyData.strOk (Str.ofString "InvalidWord") = true := by decide +kernel
theorem so_InvalidText : PyData.strOk (Str.ofString "InvalidText") = true := by decide +kernel
theorem so_InvalidCount : PyData.strOk (Str.ofString "InvalidCount") = true := by decide +kernel
theorem so_InvalidCopies : PyData.strOk (Str.ofString "InvalidCopies") = true := by decide +kernel
theorem so_InvalidCapacity : PyData.strOk (Str.ofString "InvalidCapacity") = true := by decide +kernel
theorem so_TooLong : PyData.strOk (Str.ofString "TooLong") = true := by decide +kernel
theorem so_TooMany : PyData.strOk (Str.ofString "TooMany") = true := by decide +kernel
theorem so_Full : PyData.strOk (Str.ofString "Full") = true := by decide +kernel
theorem so_Unbalanced : PyData.strOk (Str.ofString "Unbalanced") = true := by decide +kernel
theorem so_InvalidImage : PyData.strOk (Str.ofString "InvalidImage") = true := by decide +kernel
theorem so_NotUndoable : PyData.strOk (Str.ofString "NotUndoable") = true := by decide +kernel
theorem so_InUse : PyData.strOk (Str.ofString "InUse") = true := by decide +kernel
theorem so_InvalidPage : PyData.strOk (Str.ofString "InvalidPage") = true := by decide +kernel
theorem so_InvalidName : PyData.strOk (Str.ofString "InvalidName") = true := by decide +kernel
theorem so_WrongKind : PyData.strOk (Str.ofString "WrongKind") = true := by decide +kernel
theorem so_DuplicateName : PyData.strOk (Str.ofString "DuplicateName") = true := by decide +kernel
theorem so_Circular : PyData.strOk (Str.ofString "Circular") = true := by decide +kernel
theorem so_UnknownName : PyData.strOk (Str.ofString "UnknownName") = true := by decide +kernel
theorem so_InvalidStrip : PyData.strOk (Str.ofString "InvalidStrip") = true := by decide +kernel
theorem so_InvalidPatch : PyData.strOk (Str.ofString "InvalidPatch") = true := by decide +kernel
theorem so_InvalidWeight : PyData.strOk (Str.ofString "InvalidWeight") = true := by decide +kernel
theorem so_InvalidSurface : PyData.strOk (Str.ofString "InvalidSurface") = true := by decide +kernel
theorem so_InvalidCommand : PyData.strOk (Str.ofString "InvalidCommand") = true := by decide +kernel
theorem so_value : PyData.strOk (Str.ofString "value") = true := by decide +kernel
theorem so_NothingLeft : PyData.strOk (Str.ofString "NothingLeft") = true := by decide +kernel
theorem strOk_sl {l : List Nat} (h : ∀ c ∈ l, c < 1114112) : PyData.strOk (Sl l) = true := by
  unfold PyData.strOk
  rw [← Array.all_toList]
  exact List.all_eq_true.mpr fun c hc => decide_eq_true (h c hc)
theorem isL_lt {c : Nat} (h : isL c = true) : c ≤ 100 := by rcases isL_cases h with rfl | rfl | rfl | rfl | rfl | rfl | rfl | rfl <;> decide
theorem strOk_AL {l : List Nat} (h : AL l) : PyData.strOk (Sl l) = true := strOk_sl fun c hc => by have := isL_lt (h c hc); omega
end G

set_option Elab.async false
set_option linter.all false
namespace G
/-! loops of words: cyclic part, least rotation, roots -/
/-- the least of a list of words, the first of them -/
def ltW (a b : List Nat) : Bool := decide (a < b)
def minL : List (List Nat) → List Nat
  | [] => []
  | x :: xs => xs.foldl (fun a y => if ltW y a = true then y else a) x
/-- one pair of opposite ends taken off -/
def endsOp (l : List Nat) : Bool := match l with
  | a :: b :: t => decide (a = opN ((b :: t).getLast (by simp)))
  | _ => false
def strip (l : List Nat) : List Nat := if endsOp l = true then (l.drop 1).dropLast else l
def stripN : Nat → List Nat → List Nat
  | 0, l => l
  | n + 1, l => stripN n (strip l)
def cyc (l : List Nat) : List Nat := stripN l.length l
theorem strip_len (l : List Nat) : (strip l).length ≤ l.length := by
  unfold strip
  split
  · rw [List.length_dropLast, List.length_drop]; omega
  · exact Nat.le_refl _
theorem endsOp_iff {l : List Nat} : endsOp l = true ↔ ∃ a m, l = a :: (m ++ [opN a]) := by
  match l with
  | [] => simp [endsOp]
  | [a] => simp [endsOp]
  | a :: b :: t =>
    unfold endsOp
    rw [decide_eq_true_eq]
    constructor
    · intro h
      refine ⟨a, (b :: t).dropLast, ?_⟩
      have e := List.dropLast_concat_getLast (l := b :: t) (by simp)
      congr 1
      have h2 : (b :: t).getLast (by simp) = opN a := by rw [h, opop]
      rw [← h2, e]
    · rintro ⟨a', m, e⟩
      injection e with e1 e2
      subst e1
      have : (b :: t).getLast (by simp) = opN a := by
        simp only [e2]
        simp
      rw [this, opop]
theorem strip_yes (a : Nat) (m : List Nat) : strip (a :: (m ++ [opN a])) = m := by
  unfold strip
  rw [if_pos (endsOp_iff.mpr ⟨a, m, rfl⟩)]
  simp
theorem strip_no {l : List Nat} (h : endsOp l = false) : strip l = l := by unfold strip; rw [if_neg (by rw [h]; exact Bool.false_ne_true)]
theorem endsOp_len {l : List Nat} (h : endsOp l = true) : (strip l).length + 2 = l.length := by
  obtain ⟨a, m, rfl⟩ := endsOp_iff.mp h
  rw [strip_yes]
  simp
theorem stripN_no {n : Nat} {l : List Nat} (h : endsOp l = false) : stripN n l = l := by
  induction n with
  | zero => rfl
  | succ n ih => show stripN n (strip l) = l; rw [strip_no h, ih]
theorem stripN_ends : ∀ {n : Nat} {l : List Nat}, l.length ≤ n + 1 → endsOp (stripN n l) = false
  | 0, l, h => by
    show endsOp l = false
    match l, h with
    | [], _ => rfl
    | [_], _ => rfl
  | n + 1, l, h => by
    show endsOp (stripN n (strip l)) = false
    cases e : endsOp l with
    | false =>
      rw [strip_no e, stripN_no e]
      exact e
    | true =>
      have := endsOp_len e
      exact stripN_ends (by omega)
theorem cyc_ends (l : List Nat) : endsOp (cyc l) = false := stripN_ends (by omega)
theorem cyc_no {l : List Nat} (h : endsOp l = false) : cyc l = l := stripN_no h
theorem stripN_enough : ∀ {n m : Nat} {l : List Nat}, l.length ≤ n + 1 → l.length ≤ m + 1 → stripN n l = stripN m l
  | 0, m, l, h, _ => by
    have : endsOp l = false := by
      match l, h with
      | [], _ => rfl
      | [_], _ => rfl
    rw [stripN_no this, stripN_no this]
  | n + 1, 0, l, _, h => by
    have : endsOp l = false := by
      match l, h with
      | [], _ => rfl
      | [_], _ => rfl
    rw [stripN_no this, stripN_no this]
  | n + 1, m + 1, l, h1, h2 => by
    show stripN n (strip l) = stripN m (strip l)
    cases e : endsOp l with
    | false => rw [strip_no e, stripN_no e, stripN_no e]
    | true =>
      have := endsOp_len e
      exact stripN_enough (by omega) (by omega)
theorem cyc_wrap (a : Nat) (m : List Nat) : cyc (a :: (m ++ [opN a])) = cyc m := by
  unfold cyc
  have e : (a :: (m ++ [opN a])).length = m.length + 1 + 1 := by simp
  rw [e]
  show stripN (m.length + 1) (strip _) = _
  rw [strip_yes]
  exact stripN_enough (by omega) (by omega)
/-- l = p ++ cyc l ++ inv p -/
theorem cyc_spec (l : List Nat) : ∃ p, l = p ++ cyc l ++ inv p := by
  obtain ⟨n, hn⟩ : ∃ n, n = l.length := ⟨_, rfl⟩
  induction n using Nat.strongRecOn generalizing l with
  | _ n ih =>
    cases e : endsOp l with
    | false => exact ⟨[], by rw [cyc_no e]; simp [inv]⟩
    | true =>
      obtain ⟨a, m, rfl⟩ := endsOp_iff.mp e
      have hl : m.length < n := by rw [hn]; simp; omega
      obtain ⟨p, hp⟩ := ih m.length hl m rfl
      refine ⟨a :: p, ?_⟩
      rw [cyc_wrap, inv_cons]
      have : a :: (m ++ [opN a]) = a :: ((p ++ cyc m ++ inv p) ++ [opN a]) := by rw [← hp]
      rw [this]
      simp
theorem cyc_pre (p c : List Nat) (h : endsOp c = false) : cyc (p ++ c ++ inv p) = c := by
  induction p with
  | nil => rw [inv_nil, List.nil_append, List.append_nil, cyc_no h]
  | cons a p ih =>
    have e : a :: p ++ c ++ inv (a :: p) = a :: ((p ++ c ++ inv p) ++ [opN a]) := by rw [inv_cons]; simp
    rw [e, cyc_wrap, ih]
theorem cyc_len (l : List Nat) : (cyc l).length ≤ l.length := by
  obtain ⟨p, h⟩ := cyc_spec l
  have := congrArg List.length h
  rw [List.length_append, List.length_append] at this
  omega
theorem cyc_mem {l : List Nat} {c : Nat} (h : c ∈ cyc l) : c ∈ l := by
  obtain ⟨p, e⟩ := cyc_spec l
  rw [e]
  exact List.mem_append_left _ (List.mem_append_right _ h)
theorem AL.cyc {l : List Nat} (h : AL l) : AL (cyc l) := fun c hc => h c (cyc_mem hc)
theorem cyc_rd {l : List Nat} (h : Rd l) : Rd (cyc l) := by
  obtain ⟨p, e⟩ := cyc_spec l
  rw [e] at h
  exact h.left.right
theorem cyc_nil {l : List Nat} (h : Rd l) : cyc l = [] ↔ l = [] := by
  constructor
  · intro e
    obtain ⟨p, h2⟩ := cyc_spec l
    rw [e, List.append_nil] at h2
    cases p with
    | nil => rw [h2]; rfl
    | cons a p =>
      rw [h2] at h
      rcases snocCases (a :: p) with e3 | ⟨t, c, e3⟩
      · cases e3
      · rw [e3, inv_snoc, List.append_assoc] at h
        exact absurd rfl (h.split (a := t) (x := c) (y := opN c) |> fun z => by rw [opop] at z; exact z)
  · rintro rfl
    rfl
/-- rotations -/
def rot (l : List Nat) (k : Nat) : List Nat := l.drop k ++ l.take k
def rots (l : List Nat) : List (List Nat) := (List.range l.length).map (rot l)
def leastR (l : List Nat) : List Nat := minL (rots l)
def loopL (l : List Nat) : List Nat := leastR (cyc (red l))
theorem rot_len (l : List Nat) (k : Nat) : (rot l k).length = l.length := by
  unfold rot
  rw [List.length_append, List.length_drop, List.length_take]
  omega
theorem rot_mem {l : List Nat} {k c : Nat} (h : c ∈ rot l k) : c ∈ l := by
  unfold rot at h
  exact (List.mem_append.mp h).elim (fun h => List.mem_of_mem_drop h) fun h => List.mem_of_mem_take h
theorem minL_mem {x : List Nat} {xs : List (List Nat)} : minL (x :: xs) ∈ x :: xs := by
  show xs.foldl (fun a y => if ltW y a = true then y else a) x ∈ x :: xs
  induction xs generalizing x with
  | nil => exact List.mem_cons_self
  | cons y ys ih =>
    rw [List.foldl_cons]
    have := ih (x := if ltW y x = true then y else x)
    rcases List.mem_cons.mp this with h | h
    · rw [h]
      split
      · exact List.mem_cons_of_mem _ List.mem_cons_self
      · exact List.mem_cons_self
    · exact List.mem_cons_of_mem _ (List.mem_cons_of_mem _ h)
theorem minL_le {xs : List (List Nat)} : ∀ y ∈ xs, ¬ y < minL xs := by
  cases xs with
  | nil => intro y h; cases h
  | cons x xs =>
    show ∀ y ∈ x :: xs, ¬ y < xs.foldl (fun a y => if ltW y a = true then y else a) x
    induction xs generalizing x with
    | nil =>
      intro y h
      rw [List.mem_singleton.mp h]
      exact List.lt_irrefl x
    | cons z zs ih =>
      intro y h
      rw [List.foldl_cons]
      have key := ih (if ltW z x = true then z else x)
      have hle : ¬ (if ltW z x = true then z else x) < zs.foldl (fun a y => if ltW y a = true then y else a) (if ltW z x = true then z else x) := key _ List.mem_cons_self
      rcases List.mem_cons.mp h with rfl | h
      · intro lt
        refine hle ?_
        by_cases c : ltW z y = true
        · rw [if_pos c] at lt ⊢
          exact List.lt_trans (of_decide_eq_true c) lt
        · rw [if_neg c] at lt ⊢
          exact lt
      · rcases List.mem_cons.mp h with rfl | h
        · intro lt
          refine hle ?_
          by_cases c : ltW y x = true
          · rw [if_pos c] at lt ⊢
            exact lt
          · rw [if_neg c] at lt ⊢
            have c' : ¬ y < x := fun z => c (decide_eq_true z)
            exact List.lt_of_le_of_lt (List.not_lt.mp c') lt
        · exact key y (List.mem_cons_of_mem _ h)
theorem min_unique {xs ys : List (List Nat)} (hx : xs ≠ []) (hy : ys ≠ []) (h1 : ∀ a, a ∈ xs → a ∈ ys) (h2 : ∀ a, a ∈ ys → a ∈ xs) : minL xs = minL ys := by
  have m1 : minL xs ∈ xs := by
    cases xs with
    | nil => exact absurd rfl hx
    | cons x xs => exact minL_mem
  have m2 : minL ys ∈ ys := by
    cases ys with
    | nil => exact absurd rfl hy
    | cons x xs => exact minL_mem
  have a := minL_le (xs := ys) _ (h1 _ m1)
  have b := minL_le (xs := xs) _ (h2 _ m2)
  exact List.le_antisymm (List.not_lt.mp b) (List.not_lt.mp a)
/-! cyclically reduced -/
theorem Rd.join : ∀ {s : List Nat} {x y : Nat} {t : List Nat}, Rd (s ++ [x]) → Rd (y :: t) → x ≠ opN y → Rd (s ++ x :: y :: t)
  | [], _, _, _, _, h2, n => ⟨n, h2⟩
  | [a], x, y, t, h1, h2, n => ⟨h1.1, n, h2⟩
  | a :: b :: s, x, y, t, h1, h2, n => ⟨h1.1, Rd.join (s := b :: s) h1.2 h2 n⟩
theorem Rd.glue {a b d : List Nat} (h1 : Rd (a ++ b)) (h2 : Rd (b ++ d)) (n : b ≠ []) : Rd (a ++ b ++ d) := by
  rcases snocCases b with e | ⟨t, x, rfl⟩
  · exact absurd e n
  · cases d with
    | nil => rwa [List.append_nil]
    | cons y d =>
      rw [← List.append_assoc] at h1
      have h3 : Rd (y :: d) := h2.right
      have h4 : x ≠ opN y := by
        rw [List.append_assoc] at h2
        exact h2.split
      have := Rd.join h1 h3 h4
      simpa using this
def CR (c : List Nat) : Prop := Rd (c ++ c)
theorem CR.rd {c : List Nat} (h : CR c) : Rd c := Rd.left h
theorem CR.ends {c : List Nat} (h : CR c) : endsOp c = false := by
  cases e : endsOp c with
  | false => rfl
  | true =>
    obtain ⟨a, m, rfl⟩ := endsOp_iff.mp e
    have h2 : Rd ((a :: m) ++ opN a :: a :: (m ++ [opN a])) := by
      have : (a :: m) ++ opN a :: a :: (m ++ [opN a]) = a :: (m ++ [opN a]) ++ a :: (m ++ [opN a]) := by simp
      rw [this]
      exact h
    exact absurd rfl h2.split
theorem cr_of {c : List Nat} (h : Rd c) (al : AL c) (e : endsOp c = false) : CR c := by
  match c, h, al, e with
  | [], _, _, _ => trivial
  | [b], _, al, _ => exact ⟨fun z => op_ne (al b List.mem_cons_self) z.symm, trivial⟩
  | b :: b2 :: t, h, al, e =>
    rcases snocCases (b2 :: t) with z | ⟨m, d, z⟩
    · cases z
    · rw [z] at h e ⊢
      have n : d ≠ opN b := fun q => by
        have : endsOp (b :: (m ++ [d])) = true := endsOp_iff.mpr ⟨b, m, by rw [q]⟩
        rw [this] at e
        cases e
      have h1 : Rd ((b :: m) ++ [d]) := by simpa using h
      have := Rd.join h1 h n
      show Rd _
      simpa using this
theorem CR.nil : CR [] := trivial
theorem CR.triple {c : List Nat} (h : CR c) : Rd (c ++ c ++ c) := by
  by_cases n : c = []
  · rw [n]; trivial
  · exact Rd.glue h h n
theorem CR.rot {c : List Nat} (h : CR c) (k : Nat) : CR (G.rot c k) := by
  have h3 := h.triple
  have e : c ++ c ++ c = c.take k ++ (G.rot c k ++ G.rot c k) ++ c.drop k := by
    have e1 : c = c.take k ++ c.drop k := (List.take_append_drop k c).symm
    unfold G.rot
    conv => lhs; rw [e1]
    simp only [List.append_assoc]
  rw [e] at h3
  exact h3.left.right
theorem CR.rep {c : List Nat} (h : CR c) : ∀ m, Rd (repL m c)
  | 0 => trivial
  | 1 => by rw [repL_one]; exact h.rd
  | m + 2 => by
    by_cases n : c = []
    · rw [n, repL_nil]; trivial
    · rw [repL_succ, repL_succ, ← List.append_assoc]
      refine Rd.glue h ?_ n
      have := CR.rep h (m + 1)
      rwa [repL_succ] at this
theorem CR.repC {c : List Nat} (h : CR c) (m : Nat) : CR (repL m c) := by
  show Rd _
  rw [← repL_add]
  exact h.rep _
theorem CR.red {c : List Nat} (h : CR c) : G.red c = c := red_of h.rd
theorem CR.cyc {c : List Nat} (h : CR c) : G.cyc c = c := cyc_no h.ends
theorem cyc_cr {w : List Nat} (al : AL w) : CR (cyc (red w)) := cr_of (cyc_rd (red_rd w)) al.red.cyc (cyc_ends _)
theorem rot_zero (c : List Nat) : rot c 0 = c := by unfold rot; simp
theorem rot_big {c : List Nat} {k : Nat} (h : c.length ≤ k) : rot c k = c := by unfold rot; rw [List.drop_eq_nil_of_le h, List.take_of_length_le h]; rfl
theorem rot_app (a b : List Nat) : rot (a ++ b) a.length = b ++ a := by unfold rot; rw [List.drop_left, List.take_left]
theorem rot_rot {c : List Nat} {k j : Nat} : ∃ i, rot (rot c k) j = rot c i := by
  by_cases hk : c.length ≤ k
  · exact ⟨j, by rw [rot_big hk]⟩
  by_cases hj : c.length ≤ j
  · exact ⟨k, by rw [rot_big (c := rot c k) (by rw [rot_len]; exact hj)]⟩
  have ek : (c.drop k).length = c.length - k := List.length_drop
  unfold rot
  by_cases h : j ≤ c.length - k
  · refine ⟨k + j, ?_⟩
    rw [List.drop_append_of_le_length (by omega), List.take_append_of_le_length (by omega), List.drop_drop, List.append_assoc]
    congr 1
    rw [List.take_add]
  · refine ⟨k + j - c.length, ?_⟩
    have e1 : List.drop j (c.drop k ++ c.take k) = (c.take k).drop (j - (c.length - k)) := by
      rw [List.drop_append, List.drop_eq_nil_of_le (by omega), List.nil_append, ek]
    have e2 : List.take j (c.drop k ++ c.take k) = c.drop k ++ (c.take k).take (j - (c.length - k)) := by
      rw [List.take_append, List.take_of_length_le (by omega), ek]
    rw [e1, e2]
    have e3 : j - (c.length - k) = k + j - c.length := by omega
    rw [e3, List.take_take, Nat.min_eq_left (by omega), ← List.append_assoc]
    congr 1
    have e4 : c.drop (k + j - c.length) = (c.take k ++ c.drop k).drop (k + j - c.length) := by rw [List.take_append_drop]
    rw [e4, List.drop_append_of_le_length (by rw [List.length_take]; omega)]
theorem rot_back {c : List Nat} {k : Nat} : ∃ j, rot (rot c k) j = c := by
  by_cases hk : c.length ≤ k
  · exact ⟨0, by rw [rot_zero, rot_big hk]⟩
  · refine ⟨(c.drop k).length, ?_⟩
    show rot (c.drop k ++ c.take k) _ = c
    rw [rot_app, List.take_append_drop]
theorem mem_rots {c a : List Nat} (hc : c ≠ []) : a ∈ rots c ↔ ∃ k, a = rot c k := by
  unfold rots
  have hp : 0 < c.length := List.length_pos_iff.mpr hc
  constructor
  · intro h
    obtain ⟨k, _, e⟩ := List.mem_map.mp h
    exact ⟨k, e.symm⟩
  · rintro ⟨k, rfl⟩
    by_cases hk : c.length ≤ k
    · exact List.mem_map.mpr ⟨0, List.mem_range.mpr hp, by rw [rot_zero, rot_big hk]⟩
    · exact List.mem_map.mpr ⟨k, List.mem_range.mpr (by omega), rfl⟩
theorem rots_ne {c : List Nat} (hc : c ≠ []) : rots c ≠ [] := fun e => by
  have : c ∈ rots c := (mem_rots hc).mpr ⟨0, (rot_zero c).symm⟩
  rw [e] at this
  cases this
theorem rot_nil (k : Nat) : rot [] k = [] := by unfold rot; simp
theorem rot_ne {c : List Nat} (hc : c ≠ []) (k : Nat) : rot c k ≠ [] := fun e => hc (by
  have := rot_len c k
  rw [e] at this
  exact List.length_eq_zero_iff.mp this.symm)
theorem leastR_rot (c : List Nat) (k : Nat) : leastR (rot c k) = leastR c := by
  by_cases hc : c = []
  · rw [hc, rot_nil]
  · refine min_unique (rots_ne (rot_ne hc k)) (rots_ne hc) (fun a h => ?_) fun a h => ?_
    · obtain ⟨j, rfl⟩ := (mem_rots (rot_ne hc k)).mp h
      exact (mem_rots hc).mpr rot_rot
    · obtain ⟨j, rfl⟩ := (mem_rots hc).mp h
      obtain ⟨i, e⟩ := rot_back (c := c) (k := k)
      refine (mem_rots (rot_ne hc k)).mpr ?_
      conv => rhs; ext n; lhs; rw [← e]
      obtain ⟨n, hn⟩ := rot_rot (c := rot c k) (k := i) (j := j)
      exact ⟨n, hn⟩
theorem leastR_at {c : List Nat} (hc : c ≠ []) : ∃ k, leastR c = rot c k := by
  refine (mem_rots hc).mp ?_
  unfold leastR
  cases e : rots c with
  | nil => exact absurd e (rots_ne hc)
  | cons x xs => exact minL_mem
theorem leastR_le {c : List Nat} (hc : c ≠ []) (k : Nat) : ¬ rot c k < leastR c := minL_le _ ((mem_rots hc).mpr ⟨k, rfl⟩)
theorem leastR_nil : leastR [] = [] := rfl
theorem leastR_len (c : List Nat) : (leastR c).length = c.length := by
  by_cases hc : c = []
  · rw [hc]; rfl
  · obtain ⟨k, e⟩ := leastR_at hc
    rw [e, rot_len]
theorem leastR_mem {c : List Nat} {d : Nat} (h : d ∈ leastR c) : d ∈ c := by
  by_cases hc : c = []
  · rw [hc] at h; cases h
  · obtain ⟨k, e⟩ := leastR_at hc
    rw [e] at h
    exact rot_mem h
theorem CR.least {c : List Nat} (h : CR c) : CR (leastR c) := by
  by_cases hc : c = []
  · rw [hc]; exact CR.nil
  · obtain ⟨k, e⟩ := leastR_at hc
    rw [e]
    exact h.rot k
theorem loopL_cr {w : List Nat} (al : AL w) : CR (loopL w) := (cyc_cr al).least
theorem loopL_of {c : List Nat} (h : CR c) : loopL c = leastR c := by unfold loopL; rw [h.red, h.cyc]
theorem loopL_al {w : List Nat} (al : AL w) : AL (loopL w) := fun c hc => al.red.cyc c (leastR_mem hc)
theorem loopL_len (w : List Nat) : (loopL w).length ≤ w.length := by
  unfold loopL
  rw [leastR_len]
  exact Nat.le_trans (cyc_len _) (red_len w)
theorem leastR_least (c : List Nat) : leastR (leastR c) = leastR c := by
  by_cases hc : c = []
  · rw [hc]; rfl
  · obtain ⟨k, e⟩ := leastR_at hc
    conv => lhs; rw [e]
    rw [leastR_rot]
/-- a rotation of a loop's text has the same loop -/
theorem loop_rot {w : List Nat} (al : AL w) (k : Nat) : loopL (rot (loopL w) k) = loopL w := by
  rw [loopL_of ((loopL_cr al).rot k), leastR_rot]
  exact leastR_least _
theorem loop_loop {w : List Nat} (al : AL w) : loopL (loopL w) = loopL w := by
  have := loop_rot al 0
  rwa [rot_zero] at this
/-- conjugates -/
theorem conj_cr : ∀ {y c : List Nat}, Rd y → AL y → CR c → AL c → c ≠ [] → ∃ k, cyc (red (y ++ c ++ inv y)) = rot c k := by
  intro y
  induction y using snocRec with
  | h0 =>
    intro c _ _ h al n
    refine ⟨0, ?_⟩
    rw [rot_zero, inv_nil, List.nil_append, List.append_nil, h.red, h.cyc]
  | h1 t a ih =>
    intro c hy aly h al n
    have ht : Rd t := hy.left
    have alt : AL t := aly.left
    cases c with
    | nil => exact absurd rfl n
    | cons b1 c' =>
      by_cases e1 : a = opN b1
      · have e : red (t ++ [a] ++ b1 :: c' ++ inv (t ++ [a])) = red (t ++ (c' ++ [b1]) ++ inv t) := by
          have := red_ins t [opN b1] (c' ++ [b1] ++ inv t)
          rw [e1, inv_snoc, opop]
          have e2 : t ++ [opN b1] ++ b1 :: c' ++ b1 :: inv t = t ++ [opN b1] ++ inv [opN b1] ++ (c' ++ [b1] ++ inv t) := by
            show _ = t ++ [opN b1] ++ [opN (opN b1)] ++ _
            rw [opop]
            simp
          rw [e2, this]
          simp
        have er : rot (b1 :: c') 1 = c' ++ [b1] := rfl
        rw [e, ← er]
        obtain ⟨k, hk⟩ := ih ht alt (h.rot 1) (fun x hx => al x (rot_mem hx)) (rot_ne n 1)
        rw [hk]
        exact rot_rot
      · rcases snocCases (b1 :: c') with z | ⟨m, d, z⟩
        · cases z
        · by_cases e2 : d = a
          · have e : red (t ++ [a] ++ b1 :: c' ++ inv (t ++ [a])) = red (t ++ ([a] ++ m) ++ inv t) := by
              rw [z, e2, inv_snoc]
              have := red_ins (t ++ [a] ++ m) [a] (inv t)
              have e3 : t ++ [a] ++ (m ++ [a]) ++ opN a :: inv t = t ++ [a] ++ m ++ [a] ++ inv [a] ++ inv t := by
                show _ = t ++ [a] ++ m ++ [a] ++ [opN a] ++ inv t
                simp
              rw [e3, this]
              simp
            have er : rot (b1 :: c') m.length = [a] ++ m := by rw [z, rot_app, e2]
            rw [e, ← er]
            obtain ⟨k, hk⟩ := ih ht alt (h.rot m.length) (fun x hx => al x (rot_mem hx)) (rot_ne n _)
            rw [hk]
            exact rot_rot
          · refine ⟨0, ?_⟩
            have r1 : Rd (t ++ [a] ++ b1 :: c') := by
              have := Rd.join hy h.rd e1
              simpa using this
            have r2 : Rd ((b1 :: c') ++ inv (t ++ [a])) := by
              rw [inv_snoc, z]
              have hc : Rd (m ++ [d]) := by rw [← z]; exact h.rd
              have hi : Rd (opN a :: inv t) := by
                have := hy.inv
                rwa [inv_snoc] at this
              have := Rd.join hc hi (fun q => e2 (by rw [opop] at q; exact q))
              simpa using this
            rw [red_of (Rd.glue r1 r2 n), cyc_pre _ _ h.ends, rot_zero]
theorem red_conj (y c : List Nat) : red (red y ++ c ++ inv (red y)) = red (y ++ c ++ inv y) := by
  rw [← red_inv, red_appR, List.append_assoc, red_appL, ← List.append_assoc]
theorem conj_loop {w x : List Nat} (al : AL w) (ax : AL x) : loopL (x ++ w ++ inv x) = loopL w := by
  have hc := cyc_cr al
  obtain ⟨p, hp⟩ := cyc_spec (red w)
  have ap : AL p := by
    have := al.red
    rw [hp] at this
    exact this.left.left
  have e : red (x ++ w ++ inv x) = red (red (x ++ p) ++ cyc (red w) ++ inv (red (x ++ p))) := by
    have e1 : red (x ++ w ++ inv x) = red (x ++ red w ++ inv x) := (red_mid x w (inv x)).symm
    have e2 : x ++ red w ++ inv x = (x ++ p) ++ cyc (red w) ++ inv (x ++ p) := by
      rw [inv_app]
      conv => lhs; rw [hp]
      simp
    rw [e1, e2, red_conj]
  by_cases n : cyc (red w) = []
  · unfold loopL
    rw [e, n, List.append_nil, red_cancel]
    rfl
  · obtain ⟨k, hk⟩ := conj_cr (y := red (x ++ p)) (red_rd _) (ax.app ap).red hc al.red.cyc n
    unfold loopL
    rw [e, hk, leastR_rot]
/-! powers of loops, roots -/
theorem lt_app : ∀ {a b x y : List Nat}, a.length = b.length → a < b → a ++ x < b ++ y
  | [], [], _, _, _, h => absurd h (List.lt_irrefl _)
  | [], _ :: _, _, _, e, _ => by simp at e
  | _ :: _, [], _, _, e, _ => by simp at e
  | p :: a, q :: b, x, y, e, h => by
    rw [List.cons_append, List.cons_append]
    rw [List.cons_lt_cons_iff] at h ⊢
    rcases h with h | ⟨h1, h2⟩
    · exact .inl h
    · exact .inr ⟨h1, lt_app (by simpa using e) h2⟩
theorem rep_le {a b : List Nat} (m : Nat) (e : a.length = b.length) (h : ¬ b < a) : ¬ repL m b < repL m a := by
  cases m with
  | zero => exact List.lt_irrefl _
  | succ m =>
    by_cases q : a = b
    · rw [q]; exact List.lt_irrefl _
    · have lt : a < b := Decidable.byContradiction fun n => q (List.le_antisymm (List.not_lt.mp h) (List.not_lt.mp n))
      rw [repL_succ, repL_succ]
      intro z
      exact List.lt_asymm z (lt_app e lt)
theorem rep_rot {c : List Nat} (m : Nat) : ∀ {k : Nat}, k ≤ c.length → rot (repL (m + 1) c) k = repL (m + 1) (rot c k) := fun {k} h => by
  have e : ∀ n : Nat, repL n c ++ c.take k = c.take k ++ repL n (rot c k) := fun n => by
    induction n with
    | zero => rw [repL_zero, repL_zero]; simp
    | succ n ih =>
      rw [repL_succ, repL_succ, List.append_assoc, ih]
      have : rot c k = c.drop k ++ c.take k := rfl
      rw [this]
      conv => lhs; lhs; rw [← List.take_append_drop k c]
      simp only [List.append_assoc]
  have e1 : (repL (m + 1) c).drop k = c.drop k ++ repL m c := by rw [repL_succ, List.drop_append_of_le_length h]
  have e2 : (repL (m + 1) c).take k = c.take k := by rw [repL_succ, List.take_append_of_le_length h]
  show (repL (m + 1) c).drop k ++ (repL (m + 1) c).take k = _
  rw [e1, e2, List.append_assoc, e, repL_succ]
  show _ = (c.drop k ++ c.take k) ++ _
  rw [List.append_assoc]
theorem rep_rots {c : List Nat} (m : Nat) (hc : c ≠ []) (k : Nat) : ∃ j, rot (repL (m + 1) c) k = repL (m + 1) (rot c j) := by
  induction k using Nat.strongRecOn with
  | _ k ih =>
    by_cases h : k ≤ c.length
    · exact ⟨k, rep_rot m h⟩
    · by_cases hb : (repL (m + 1) c).length ≤ k
      · exact ⟨0, by rw [rot_big hb, rot_zero]⟩
      · have hp : 0 < c.length := List.length_pos_iff.mpr hc
        obtain ⟨j, hj⟩ := ih (k - c.length) (by omega)
        refine ⟨j, ?_⟩
        rw [← hj]
        have el : (repL (m + 1) c).length = c.length + (repL m c).length := by rw [repL_succ, List.length_append]
        have ek : k = c.length + (k - c.length) := by omega
        have e1 : (repL (m + 1) c).drop k = (repL m c).drop (k - c.length) := by
          rw [repL_succ]
          conv => lhs; rw [ek]
          rw [← List.drop_drop, List.drop_left]
        have e2 : (repL (m + 1) c).take k = c ++ (repL m c).take (k - c.length) := by
          rw [repL_succ, List.take_append, List.take_of_length_le (by omega)]
        have e3 : (repL (m + 1) c).drop (k - c.length) = (repL m c).drop (k - c.length) ++ c := by
          rw [repL_snoc, List.drop_append_of_le_length (by omega)]
        have e4 : (repL (m + 1) c).take (k - c.length) = (repL m c).take (k - c.length) := by
          rw [repL_snoc, List.take_append_of_le_length (by omega)]
        show (repL (m + 1) c).drop k ++ (repL (m + 1) c).take k = (repL (m + 1) c).drop _ ++ (repL (m + 1) c).take _
        rw [e1, e2, e3, e4, List.append_assoc]
theorem rep_ne {c : List Nat} (m : Nat) (hc : c ≠ []) : repL (m + 1) c ≠ [] := fun e => hc (by
  rw [repL_succ] at e
  exact (List.append_eq_nil_iff.mp e).1)
theorem leastR_rep {c : List Nat} (m : Nat) (h : leastR c = c) : leastR (repL (m + 1) c) = repL (m + 1) c := by
  by_cases hc : c = []
  · rw [hc, repL_nil]; rfl
  · obtain ⟨k, hk⟩ := leastR_at (rep_ne m hc)
    obtain ⟨j, hj⟩ := rep_rots m hc k
    have a : ¬ repL (m + 1) c < leastR (repL (m + 1) c) := by
      have := leastR_le (rep_ne m hc) 0
      rwa [rot_zero] at this
    have b : ¬ leastR (repL (m + 1) c) < repL (m + 1) c := by
      rw [hk, hj]
      refine rep_le (m + 1) (rot_len c j).symm ?_
      have := leastR_le hc j
      rwa [h] at this
    exact List.le_antisymm (List.not_lt.mp a) (List.not_lt.mp b)
theorem loop_rep {w : List Nat} (al : AL w) (m : Nat) : loopL (repL (m + 1) (loopL w)) = repL (m + 1) (loopL w) := by
  rw [loopL_of ((loopL_cr al).repC _)]
  exact leastR_rep m (leastR_least _)
/-- a power of the first size letters -/
def prS (l : List Nat) (s : Nat) : Bool := decide (repL (l.length / s) (l.take s) = l)
def rootS (l : List Nat) : Nat := ((List.range' 1 l.length).find? (prS l)).getD 0
def rootD (l : List Nat) : List Nat × Nat := if l = [] then ([], 0) else (l.take (rootS l), l.length / rootS l)
theorem prS_dvd {l : List Nat} {s : Nat} (h1 : s ≤ l.length) (h : prS l s = true) : l.length % s = 0 := by
  have e := congrArg List.length (of_decide_eq_true h)
  rw [repL_len, List.length_take, Nat.min_eq_left h1] at e
  have := Nat.div_add_mod l.length s
  rw [Nat.mul_comm] at this
  omega
theorem prS_self {l : List Nat} (h : l ≠ []) : prS l l.length = true := by
  unfold prS
  rw [Nat.div_self (List.length_pos_iff.mpr h), List.take_length, repL_one]
  exact decide_eq_true rfl
theorem rootS_spec {l : List Nat} (h : l ≠ []) : 1 ≤ rootS l ∧ rootS l ≤ l.length ∧ prS l (rootS l) = true ∧ ∀ t, 1 ≤ t → t < rootS l → prS l t = false := by
  unfold rootS
  cases e : (List.range' 1 l.length).find? (prS l) with
  | none =>
    have := List.find?_eq_none.mp e l.length (by rw [List.mem_range'_1]; have := List.length_pos_iff.mpr h; omega)
    rw [prS_self h] at this
    exact absurd rfl this
  | some s =>
    have hm := List.mem_of_find?_eq_some e
    rw [List.mem_range'_1] at hm
    refine ⟨hm.1, by show s ≤ _; omega, List.find?_some e, fun t h1 h2 => ?_⟩
    have h2 : t < s := h2
    obtain ⟨_, a, b, e2, e3⟩ := List.find?_eq_some_iff_append.mp e
    have ha : s = 1 + a.length := by
      have := congrArg (fun z => z[a.length]?) e2
      simp only [List.getElem?_append_right (Nat.le_refl _), Nat.sub_self, List.getElem?_cons_zero] at this
      rw [List.getElem?_range' (by
        have := congrArg List.length e2
        rw [List.length_range', List.length_append, List.length_cons] at this
        omega)] at this
      simp at this
      omega
    have hta : t ∈ a := by
      have := congrArg (fun z => z[t - 1]?) e2
      (try simp only at this)
      rw [List.getElem?_append_left (by omega), List.getElem?_range' (by
        have := congrArg List.length e2
        rw [List.length_range', List.length_append, List.length_cons] at this
        omega)] at this
      have e4 : 1 + 1 * (t - 1) = t := by omega
      rw [e4] at this
      exact List.mem_of_getElem? this.symm
    have := e3 t hta
    simpa using this
theorem repL_get : ∀ {k : Nat} {u : List Nat} {i : Nat}, i < k * u.length → (repL k u)[i]? = u[i % u.length]?
  | 0, u, i, h => by omega
  | k + 1, u, i, h => by
    rw [repL_succ]
    by_cases c : i < u.length
    · rw [List.getElem?_append_left c, Nat.mod_eq_of_lt c]
    · rw [List.getElem?_append_right (by omega), repL_get (by rw [Nat.succ_mul] at h; omega), Nat.mod_eq_sub_mod (by omega : i ≥ u.length)]
/-- periods of a row that goes round -/
def Per (f : Nat → Option Nat) (t : Nat) : Prop := ∀ i, f (i + t) = f i
theorem Per.mul {f : Nat → Option Nat} {t : Nat} (h : Per f t) : ∀ k, Per f (t * k)
  | 0 => fun i => by rw [Nat.mul_zero, Nat.add_zero]
  | k + 1 => fun i => by rw [Nat.mul_succ, ← Nat.add_assoc, h, Per.mul h k]
theorem Per.gcd {f : Nat → Option Nat} {s t : Nat} (h1 : Per f s) (h2 : Per f t) : Per f (Nat.gcd s t) := by
  induction s, t using Nat.gcd.induction with
  | H0 n => rw [Nat.gcd_zero_left]; exact h2
  | H1 m n hm ih =>
    rw [Nat.gcd_rec]
    refine ih (fun i => ?_) h1
    have e := h1.mul (n / m) (i + n % m)
    rw [← e, Nat.add_assoc, Nat.mod_add_div]
    exact h2 i
theorem prS_per {l : List Nat} {s : Nat} (h0 : 1 ≤ s) (h1 : s ≤ l.length) (h : prS l s = true) : Per (fun i => l[i % l.length]?) s := fun i => by
  have hd := prS_dvd h1 h
  have e := of_decide_eq_true h
  have ht : (l.take s).length = s := by rw [List.length_take]; omega
  have hm : l.length / s * (l.take s).length = l.length := by rw [ht]; exact Nat.div_mul_cancel (Nat.dvd_of_mod_eq_zero hd)
  have hp : 0 < l.length := by omega
  have g : ∀ j, j < l.length → l[j]? = (l.take s)[j % s]? := fun j hj => by
    have := repL_get (k := l.length / s) (u := l.take s) (i := j) (by rw [hm]; exact hj)
    rw [e, ht] at this
    exact this
  show l[(i + s) % l.length]? = l[i % l.length]?
  rw [g _ (Nat.mod_lt _ hp), g _ (Nat.mod_lt _ hp), Nat.mod_mod_of_dvd _ (Nat.dvd_of_mod_eq_zero hd), Nat.mod_mod_of_dvd _ (Nat.dvd_of_mod_eq_zero hd), Nat.add_mod_right]
theorem per_prS {l : List Nat} {s : Nat} (h0 : 1 ≤ s) (hd : s ∣ l.length) (hp : 0 < l.length) (h : ∀ i, i + s < l.length → l[i + s]? = l[i]?) : prS l s = true := by
  have h1 : s ≤ l.length := Nat.le_of_dvd hp hd
  have ht : (l.take s).length = s := by rw [List.length_take]; omega
  have hm : l.length / s * (l.take s).length = l.length := by rw [ht]; exact Nat.div_mul_cancel hd
  refine decide_eq_true (List.ext_getElem? fun i => ?_)
  by_cases c : i < l.length
  · rw [repL_get (by rw [hm]; exact c), ht]
    have key : ∀ i, i < l.length → (l.take s)[i % s]? = l[i]? := fun i => by
      induction i using Nat.strongRecOn with
      | _ i ih =>
        intro hi
        by_cases q : i < s
        · rw [Nat.mod_eq_of_lt q, List.getElem?_take_of_lt q]
        · have e := h (i - s) (by omega)
          rw [Nat.sub_add_cancel (by omega)] at e
          rw [e, ← ih (i - s) (by omega) (by omega), Nat.mod_eq_sub_mod (by omega : i ≥ s)]
    exact key i c
  · rw [List.getElem?_eq_none (by rw [repL_len, hm]; omega), List.getElem?_eq_none (by omega)]
theorem rootS_rep {l : List Nat} (m : Nat) (h : l ≠ []) : rootS (repL (m + 1) l) = rootS l := by
  have hp : 0 < l.length := List.length_pos_iff.mpr h
  have h' := rep_ne m h
  have hN : (repL (m + 1) l).length = (m + 1) * l.length := repL_len _ _
  obtain ⟨a1, a2, a3, a4⟩ := rootS_spec h
  obtain ⟨b1, b2, b3, b4⟩ := rootS_spec h'
  have hNn : l.length ≤ (repL (m + 1) l).length := by rw [repL_succ, List.length_append]; omega
  have g : ∀ i, i < l.length → (repL (m + 1) l)[i]? = l[i]? := fun i hi => by rw [repL_succ, List.getElem?_append_left hi]
  have da := Nat.dvd_of_mod_eq_zero (prS_dvd a2 a3)
  have pa : Per (fun i => (repL (m + 1) l)[i % (repL (m + 1) l).length]?) (rootS l) := fun i => by
    have hp2 : 0 < (repL (m + 1) l).length := by omega
    have e1 : ∀ j, j < (repL (m + 1) l).length → (repL (m + 1) l)[j]? = l[j % l.length]? := fun j hj => repL_get (by rw [← hN]; exact hj)
    have dl : l.length ∣ (repL (m + 1) l).length := by rw [hN]; exact Nat.dvd_mul_left _ _
    have z := prS_per a1 a2 a3 i
    show (repL (m + 1) l)[(i + rootS l) % (repL (m + 1) l).length]? = (repL (m + 1) l)[i % (repL (m + 1) l).length]?
    rw [e1 _ (Nat.mod_lt _ hp2), e1 _ (Nat.mod_lt _ hp2), Nat.mod_mod_of_dvd _ dl, Nat.mod_mod_of_dvd _ dl]
    exact z
  have pb := prS_per b1 b2 b3
  have pg := pb.gcd pa
  have hg1 : 1 ≤ Nat.gcd (rootS (repL (m + 1) l)) (rootS l) := Nat.gcd_pos_of_pos_left _ (by omega)
  have hgs := Nat.gcd_le_right (rootS (repL (m + 1) l)) (by omega : 0 < rootS l)
  have hgt := Nat.gcd_le_left (rootS l) (by omega : 0 < rootS (repL (m + 1) l))
  have pr : prS l (Nat.gcd (rootS (repL (m + 1) l)) (rootS l)) = true := by
    refine per_prS hg1 (Nat.dvd_trans (Nat.gcd_dvd_right _ _) da) hp fun i hi => ?_
    have z := pg i
    (try simp only at z)
    rw [Nat.mod_eq_of_lt (by omega), Nat.mod_eq_of_lt (by omega), g _ hi, g _ (by omega)] at z
    exact z
  have e1 : rootS l ≤ Nat.gcd (rootS (repL (m + 1) l)) (rootS l) := by
    refine Nat.le_of_not_lt fun lt => ?_
    rw [a4 _ hg1 lt] at pr
    cases pr
  have pr2 : prS (repL (m + 1) l) (rootS l) = true := by
    refine per_prS a1 (Nat.dvd_trans da (by rw [hN]; exact Nat.dvd_mul_left _ _)) (by omega) fun i hi => ?_
    have z := pa i
    (try simp only at z)
    rw [Nat.mod_eq_of_lt hi, Nat.mod_eq_of_lt (by omega)] at z
    exact z
  have e2 : rootS (repL (m + 1) l) ≤ rootS l := by
    refine Nat.le_of_not_lt fun lt => ?_
    rw [b4 _ a1 lt] at pr2
    cases pr2
  omega
theorem root_exp {l : List Nat} (m : Nat) (h : l ≠ []) : (rootD (repL (m + 1) l)).2 = (m + 1) * (rootD l).2 := by
  unfold rootD
  rw [if_neg h, if_neg (rep_ne m h), rootS_rep m h, repL_len]
  obtain ⟨a1, a2, a3, _⟩ := rootS_spec h
  exact Nat.mul_div_assoc _ (Nat.dvd_of_mod_eq_zero (prS_dvd a2 a3))
/-! a part of a word, by its ends -/
def seg (l : List Nat) (s e : Nat) : List Nat := (l.drop s).take (e - s)
theorem seg_all (l : List Nat) : seg l 0 l.length = l := by unfold seg; simp
theorem seg_ends {l : List Nat} {s e a b : Nat} (h : s + 1 < e) (he : e ≤ l.length) (ha : l[s]? = some a) (hb : l[e - 1]? = some b) : seg l s e = a :: (seg l (s + 1) (e - 1) ++ [b]) := by
  unfold seg
  have hs : s < l.length := by omega
  have e1 : l.drop s = a :: l.drop (s + 1) := by
    rw [List.drop_eq_getElem_cons hs]
    congr 1
    rw [List.getElem?_eq_getElem hs] at ha
    exact Option.some.inj ha
  have e2 : e - s = (e - 1 - (s + 1)) + 1 + 1 := by omega
  rw [e1, e2, List.take_succ_cons]
  congr 1
  rw [List.take_succ]
  congr 1
  rw [List.getElem?_drop, show s + 1 + (e - 1 - (s + 1)) = e - 1 by omega, hb]
  rfl
theorem seg_short {l : List Nat} {s e : Nat} (h : e ≤ s + 1) : endsOp (seg l s e) = false := by
  have hl : (seg l s e).length ≤ 1 := by unfold seg; rw [List.length_take]; omega
  match seg l s e, hl with
  | [], _ => rfl
  | [_], _ => rfl
theorem cyc_seg_yes {l : List Nat} {s e a b : Nat} (h : s + 1 < e) (he : e ≤ l.length) (ha : l[s]? = some a) (hb : l[e - 1]? = some b) (hab : a = opN b) : cyc (seg l s e) = cyc (seg l (s + 1) (e - 1)) := by
  rw [seg_ends h he ha hb]
  have : b = opN a := by rw [hab, opop]
  rw [this]
  exact cyc_wrap _ _
theorem cyc_seg_no {l : List Nat} {s e a b : Nat} (h : s + 1 < e) (he : e ≤ l.length) (ha : l[s]? = some a) (hb : l[e - 1]? = some b) (hab : a ≠ opN b) : cyc (seg l s e) = seg l s e := by
  refine cyc_no ?_
  cases q : endsOp (seg l s e) with
  | false => rfl
  | true =>
    obtain ⟨x, m, z⟩ := endsOp_iff.mp q
    rw [seg_ends h he ha hb] at z
    injection z with z1 z2
    have z3 := (List.append_inj' z2 rfl).2
    injection z3 with z3 _
    exact absurd (by rw [z3, ← z1, opop]) hab
theorem cyc_seg_short {l : List Nat} {s e : Nat} (h : e ≤ s + 1) : cyc (seg l s e) = seg l s e := cyc_no (seg_short h)
theorem stripN_succ (n : Nat) (l : List Nat) : stripN (n + 1) l = strip (stripN n l) := by
  induction n generalizing l with
  | zero => rfl
  | succ n ih => show stripN (n + 1) (strip l) = strip (stripN n (strip l)); rw [ih]
theorem rootS_at {l : List Nat} {s : Nat} (h1 : 1 ≤ s) (h2 : s ≤ l.length) (h : prS l s = true) (hm : ∀ t, 1 ≤ t → t < s → prS l t = false) : rootS l = s := by
  have hl : l ≠ [] := fun e => by rw [e] at h2; simp at h2; omega
  obtain ⟨a1, a2, a3, a4⟩ := rootS_spec hl
  rcases Nat.lt_trichotomy (rootS l) s with c | c | c
  · rw [hm _ a1 c] at a3; cases a3
  · exact c
  · rw [a4 _ h1 c] at h; cases h
theorem rootD_at {l : List Nat} {s : Nat} (h1 : 1 ≤ s) (h2 : s ≤ l.length) (h : prS l s = true) (hm : ∀ t, 1 ≤ t → t < s → prS l t = false) : rootD l = (l.take s, l.length / s) := by
  have hl : l ≠ [] := fun e => by rw [e] at h2; simp at h2; omega
  unfold rootD
  rw [if_neg hl, rootS_at h1 h2 h hm]
theorem root_none {l : List Nat} (h : ∀ t, 1 ≤ t → t ≤ l.length → prS l t = false) : l = [] := Decidable.byContradiction fun hl => by
  obtain ⟨a1, a2, a3, a4⟩ := rootS_spec hl
  rw [h _ a1 a2] at a3
  cases a3
/-- the sizes of which a word is a power, less one -/
def sizesL (l : List Nat) : List Nat := (List.range l.length).filter fun j => prS l (1 + j)
theorem sizesL_nil {l : List Nat} (h : sizesL l = []) : l = [] := root_none fun t h1 h2 => by
  unfold sizesL at h
  rw [List.filter_eq_nil_iff] at h
  have := h (t - 1) (List.mem_range.mpr (by omega))
  rw [show 1 + (t - 1) = t by omega] at this
  simpa using this
theorem sizesL_head {l : List Nat} {j : Nat} {r : List Nat} (h : sizesL l = j :: r) : rootD l = (l.take (1 + j), l.length / (1 + j)) := by
  have hh : (sizesL l).head? = some j := by rw [h]; rfl
  unfold sizesL at hh
  rw [List.head?_filter, List.find?_eq_some_iff_append] at hh
  obtain ⟨hp, a, b, e, ha⟩ := hh
  have hj : j = a.length := by
    have := congrArg (fun z => z[a.length]?) e
    (try simp only at this)
    rw [List.getElem?_append_right (Nat.le_refl _), Nat.sub_self, List.getElem?_cons_zero, List.getElem?_range (by
      have := congrArg List.length e
      rw [List.length_range, List.length_append, List.length_cons] at this
      omega)] at this
    exact (Option.some.inj this).symm
  have hlen : l.length = a.length + 1 + b.length := by
    have := congrArg List.length e
    rw [List.length_range, List.length_append, List.length_cons] at this
    omega
  refine rootD_at (by omega) (by omega) hp fun t h1 h2 => ?_
  have hta : t - 1 ∈ a := by
    have := congrArg (fun z => z[t - 1]?) e
    (try simp only at this)
    rw [List.getElem?_append_left (by omega), List.getElem?_range (by omega)] at this
    exact List.mem_of_getElem? this.symm
  have := ha (t - 1) hta
  rw [show 1 + (t - 1) = t by omega] at this
  simpa using this
theorem min_rots (c : List Nat) : minL (rots c ++ [c]) = leastR c := by
  by_cases hc : c = []
  · rw [hc]; rfl
  · refine min_unique (by simp) (rots_ne hc) (fun a h => ?_) fun a h => List.mem_append_left _ h
    rcases List.mem_append.mp h with h | h
    · exact h
    · rw [List.mem_singleton.mp h]
      exact (mem_rots hc).mpr ⟨0, (rot_zero c).symm⟩
theorem rootD_le (l : List Nat) : (rootD l).2 ≤ l.length := by
  unfold rootD
  split
  · exact Nat.zero_le _
  · exact Nat.div_le_self _ _
/-! powers -/
theorem red_app2 (a b : List Nat) : red (red a ++ red b) = red (a ++ b) := by rw [red_appL, red_appR]
theorem red_rep (k : Nat) (a : List Nat) : red (repL k (red a)) = red (repL k a) := by
  induction k with
  | zero => rfl
  | succ k ih =>
    rw [repL_succ, repL_succ, red_appL, ← red_appR, ih, red_appR]
theorem red_mid0 (a p b : List Nat) : red (a ++ inv p ++ p ++ b) = red (a ++ b) := by
  have := red_ins a (inv p) b
  rwa [inv_inv] at this
theorem rep_conj (k : Nat) (p c : List Nat) : red (repL k (p ++ c ++ inv p)) = red (p ++ repL k c ++ inv p) := by
  induction k with
  | zero => rw [repL_zero, repL_zero, List.append_nil, red_cancel]; rfl
  | succ k ih =>
    rw [repL_succ, repL_succ, ← red_appR, ih, red_appR]
    have := red_mid0 (p ++ c) p (repL k c ++ inv p)
    have e1 : p ++ c ++ inv p ++ (p ++ repL k c ++ inv p) = p ++ c ++ inv p ++ p ++ (repL k c ++ inv p) := by simp
    rw [e1, this]
    simp
theorem rd_conj {p c : List Nat} (h : Rd (p ++ c ++ inv p)) (hc : CR c) (n : c ≠ []) (k : Nat) : Rd (p ++ repL (k + 1) c ++ inv p) := by
  have h1 : Rd (p ++ c) := h.left
  have h2 : Rd (c ++ inv p) := by
    rw [List.append_assoc] at h
    exact h.right
  have h3 : Rd (p ++ repL (k + 1) c) := by
    rw [repL_succ, ← List.append_assoc]
    refine Rd.glue h1 ?_ n
    have := hc.rep (k + 1)
    rwa [repL_succ] at this
  rw [repL_snoc, ← List.append_assoc] at h3 ⊢
  exact Rd.glue h3 h2 n
theorem power_core {a : List Nat} (al : AL a) (k : Nat) (hn : cyc (red a) ≠ []) (half : Nat) (hh : half = ((red a).length - (cyc (red a)).length) / 2) :
    red (repL (k + 1) a) = (red a).take half ++ repL (k + 1) (cyc (red a)) ++ (red a).drop (half + (cyc (red a)).length) := by
  obtain ⟨p, hp⟩ := cyc_spec (red a)
  have hc := cyc_cr al
  have hrd := red_rd a
  generalize cyc (red a) = c at hp hc hn hh
  rw [← red_rep]
  generalize red a = b at hp hrd hh
  subst hp
  have hl : half = p.length := by
    rw [hh, List.length_append, List.length_append, inv_len]
    omega
  rw [rep_conj, red_of (rd_conj hrd hc hn k), hl]
  have e1 : (p ++ c ++ inv p).take p.length = p := by rw [List.append_assoc, List.take_left]
  have e2 : (p ++ c ++ inv p).drop (p.length + c.length) = inv p := by rw [← List.length_append, List.drop_left]
  rw [e1, e2]
theorem power_nil {a : List Nat} (k : Nat) (hn : cyc (red a) = []) : red (repL k a) = [] := by
  have : red a = [] := (cyc_nil (red_rd a)).mp hn
  rw [← red_rep, this, repL_nil]
  rfl
end G

set_option Elab.async false
set_option linter.all false
set_option maxRecDepth 100000
set_option maxHeartbeats 4000000
namespace G
open PySem L2 PySem.Spec PyProof.Rows
variable [TabNm]
/-! the least of a list of texts -/
theorem minOf_sl (x : List Nat) (xs : List (List Nat)) : PySem.W.minOf (Sl x) (xs.map Sl) = Sl (minL (x :: xs)) := by
  show (xs.map Sl).foldl _ (Sl x) = Sl (xs.foldl _ x)
  induction xs generalizing x with
  | nil => rfl
  | cons y ys ih =>
    rw [List.map_cons, List.foldl_cons, List.foldl_cons, ← ih]
    congr 1
    show (if decide (y < x) = true then Sl y else Sl x) = Sl (if ltW y x = true then y else x)
    unfold ltW
    split <;> rfl
theorem readsS {h : Heap} : ∀ {ls : List (List Nat)} {us : List Value}, Vals (ls.map fun l => V.str (Sl l)) us → ReadsAll h us ((ls.map Sl).map PyData.str) []
  | [], _, .nil => .nil
  | l :: ls, _, .cons r t => by
    obtain ⟨k, rfl⟩ := r
    exact .cons (.str _ _) (readsS t)
def rMinS (K : Fr) : List V → Hp → VK → Prop := fun vs H Q => ∃ (a : Addr) (ls : List (List Nat)), vs = [V.ref a] ∧ SqL K H a (ls.map fun l => V.str (Sl l)) ∧ ls ≠ [] ∧ Q (.str (Sl (minL ls))) H
def rMinSD (K : Fr) : List V → List V → Hp → VK → Prop := fun vs zs H Q => ∃ (a : Addr) (ls : List (List Nat)) (d : List Nat), vs = [V.ref a] ∧ zs = [V.str (Sl d)] ∧ SqL K H a (ls.map fun l => V.str (Sl l)) ∧ Q (.str (Sl (if ls = [] then d else minL ls))) H
theorem cr_minS {X : Cx} (hc : X.calm = true) (hu : X.A.units + 64 < cLine) : CallR X (.builtin "min") (rMinS X.K) := by
  intro pins s σ H vs us Q I r h
  obtain ⟨a, ls, rfl, hs, hne, q⟩ := h
  obtain ⟨its, rv, hl, _⟩ := I.list hs
  rw [Vals.ref1 r]
  cases ls with
  | nil => exact absurd rfl hne
  | cons x xs =>
    refine PySem.W.min_list_datum (α := Str) (x := Sl x) (xs := xs.map Sl) (I.ok.hd hc) hl.isList ⟨[], readsS (h := s.heap) rv⟩ (by have e : PySem.W.Datum.depth Str = 0 := rfl; rw [e]; omega) fun i v h' tk hi ⟨bs, hv⟩ hk => ?_
    have hv : Reads h' v (.str (PySem.W.minOf (Sl x) (xs.map Sl))) bs := hv
    rw [minOf_sl] at hv
    cases hv with
    | str _ t => exact ⟨.str _, H, I.kept hk, ⟨t, rfl⟩, q⟩
theorem cr_minSD {X : Cx} (hc : X.calm = true) (hu : X.A.units + 64 < cLine) : CallRK X (.builtin "min") [Str.ofString "default"] (rMinSD X.K) := by
  intro pins s σ H vs zs us ws Q I r rz h
  obtain ⟨a, ls, d, rfl, rfl, hs, q⟩ := h
  obtain ⟨its, rv, hl, _⟩ := I.list hs
  rw [Vals.ref1 r]
  cases rz with
  | cons r1 rn =>
    cases rn
    obtain ⟨t0, rfl⟩ := r1
    refine PySem.W.min_list_datum_default (α := Str) (xs := ls.map Sl) (I.ok.hd hc) hl.isList ⟨[], readsS (h := s.heap) rv⟩ (by have e : PySem.W.Datum.depth Str = 0 := rfl; rw [e]; omega) (fun e h' tk hk => ?_) fun y ys i v h' tk e hi ⟨bs, hv⟩ hk => ?_
    · have e : ls = [] := List.map_eq_nil_iff.mp e
      rw [if_pos e] at q
      exact ⟨.str _, H, I.kept hk, ⟨t0, rfl⟩, q⟩
    · cases ls with
      | nil => cases e
      | cons x xs =>
        rw [List.map_cons] at e
        injection e with e1 e2
        subst e1 e2
        rw [if_neg (by simp)] at q
        have hv : Reads h' v (.str (PySem.W.minOf (Sl x) (xs.map Sl))) bs := hv
        rw [minOf_sl] at hv
        cases hv with
        | str _ t => exact ⟨.str _, H, I.kept hk, ⟨t, rfl⟩, q⟩
section
variable {K : Fr} {σ : L2.St} {H : Hp} {Q : VK} {al tk : TA}
theorem e_minS {a : Addr} : rMinS K [.ref a] H Q = ∃ ls : List (List Nat), SqL K H a (ls.map fun l => V.str (Sl l)) ∧ ls ≠ [] ∧ Q (.str (Sl (minL ls))) H := propext ⟨fun ⟨a', ls, e, r⟩ => by cases e; exact ⟨ls, r⟩, fun ⟨ls, r⟩ => ⟨a, ls, rfl, r⟩⟩
theorem e_minSD {a : Addr} {d : List Nat} : rMinSD K [.ref a] [.str (Sl d)] H Q = ∃ ls : List (List Nat), SqL K H a (ls.map fun l => V.str (Sl l)) ∧ Q (.str (Sl (if ls = [] then d else minL ls))) H :=
  propext ⟨fun ⟨a', ls, d', e, e2, r⟩ => by
    cases e
    have : d = d' := SX.S_inj (V.str.inj (List.cons.inj e2).1)
    subst this
    exact ⟨ls, r⟩, fun ⟨ls, r⟩ => ⟨a, ls, d, rfl, rfl, r⟩⟩
theorem e_CKw {r : List V → List V → Hp → VK → Prop} : tCKw r al tk σ H Q = al σ H (fun vs H1 => tk σ H1 fun zs H2 => r vs zs H2 Q) := rfl
end
/-! comprehensions that write nothing, over a range, over a list -/
theorem w_lcPR {i n : Nat} {lo : Int} {f : Nat → V} {te : TE} {vs : List Nat} {σ : L2.St} {H : Hp} {L : Addr} {Q : VK} (hL : H L = none) (hlen : n ≤ 100000) (hw : ∀ v : V, wipe ((wipe σ vs).set i (some v)) vs = wipe σ vs)
    (hs : ∀ j, j < n → ∀ H1 Q, Same H H1 → (∀ H2, Same H1 H2 → Q (f j) H2) → te ((wipe σ vs).set i (some (.int (lo + (j : Nat))))) H1 Q) (hd : ∀ H', Same H H' → H' L = some (.lst ((List.range n).map f)) → Q (.ref L) H') : LB (Itr lo n) (gName i) tYes te vs σ L Q H := by
  refine w_lcR (fun j H' => Same H H' ∧ H' L = some (.lst ((List.range j).map f))) ⟨sameNew hL, upd_same⟩ ?_ fun H1 ⟨s1, e1⟩ => hd _ s1 e1
  rintro j H1 hj ⟨s1, e1⟩ N hN
  refine ⟨hw _, hs j hj H1 _ s1 fun H2 s2 => ⟨_, s2 _ _ e1, ?_, hN _ ⟨?_, ?_⟩⟩⟩
  · rw [sizeLine_eq, List.length_map, List.length_range]; omega
  · intro b u e
    rw [upd_ne (ne_of_none e hL)]
    exact s2 _ _ (s1 _ _ e)
  · rw [upd_same, List.range_succ, List.map_append]
    rfl
theorem w_lcPRf {i n : Nat} {lo : Int} {p : Nat → Bool} {f : Nat → V} {tt : TT} {te : TE} {vs : List Nat} {σ : L2.St} {H : Hp} {L : Addr} {Q : VK} (hL : H L = none) (hlen : n ≤ 100000) (hw : ∀ v : V, wipe ((wipe σ vs).set i (some v)) vs = wipe σ vs)
    (ht : ∀ j, j < n → ∀ H1 (R : Bool → Hp → Prop), Same H H1 → (∀ H2, Same H1 H2 → R (p j) H2) → tt ((wipe σ vs).set i (some (.int (lo + (j : Nat))))) H1 R)
    (hs : ∀ j, j < n → p j = true → ∀ H1 Q, Same H H1 → (∀ H2, Same H1 H2 → Q (f j) H2) → te ((wipe σ vs).set i (some (.int (lo + (j : Nat))))) H1 Q) (hd : ∀ H', Same H H' → H' L = some (.lst (((List.range n).filter p).map f)) → Q (.ref L) H') : LB (Itr lo n) (gName i) tt te vs σ L Q H := by
  refine w_lcR (fun j H' => Same H H' ∧ H' L = some (.lst (((List.range j).filter p).map f))) ⟨sameNew hL, upd_same⟩ ?_ fun H1 ⟨s1, e1⟩ => hd _ s1 e1
  rintro j H1 hj ⟨s1, e1⟩ N hN
  refine ⟨hw _, ht j hj H1 _ s1 fun H2 s2 => ?_⟩
  cases c : p j with
  | true =>
    rw [if_pos rfl]
    refine hs j hj c H2 _ (s1.trans s2) fun H3 s3 => ⟨_, s3 _ _ (s2 _ _ e1), ?_, hN _ ⟨?_, ?_⟩⟩
    · rw [sizeLine_eq, List.length_map]
      have := List.length_filter_le p (List.range j)
      rw [List.length_range] at this
      omega
    · intro b u e
      rw [upd_ne (ne_of_none e hL)]
      exact s3 _ _ (s2 _ _ (s1 _ _ e))
    · rw [upd_same, List.range_succ, List.filter_append, List.map_append]
      simp [c]
  | false =>
    rw [if_neg Bool.false_ne_true]
    refine hN _ ⟨s1.trans s2, ?_⟩
    rw [s2 _ _ e1, List.range_succ, List.filter_append]
    simp [c]
theorem w_lcPL {K : Fr} {i : Nat} {a : Addr} {xs : List V} {f : Nat → V} {te : TE} {vs : List Nat} {σ : L2.St} {H : Hp} {L : Addr} {Q : VK} (hx : SqL K H a xs) (hL : H L = none) (hlen : xs.length ≤ 100000) (hw : ∀ v : V, wipe ((wipe σ vs).set i (some v)) vs = wipe σ vs)
    (hs : ∀ j x, xs[j]? = some x → ∀ H1 Q, Same H H1 → (∀ H2, Same H1 H2 → Q (f j) H2) → te ((wipe σ vs).set i (some x)) H1 Q) (hd : ∀ H', Same H H' → H' L = some (.lst ((List.range xs.length).map f)) → Q (.ref L) H') : LB (Itl K a) (gName i) tYes te vs σ L Q H := by
  refine w_lcL xs (fun j H' => Same H H' ∧ H' L = some (.lst ((List.range j).map f))) ⟨sameNew hL, upd_same⟩ (fun _ _ _ ⟨s, _⟩ => s.seq hx) ?_ fun H1 ⟨s1, e1⟩ => hd _ s1 e1
  rintro j x H1 hj ⟨s1, e1⟩ N hN
  have hjl := (List.getElem?_eq_some_iff.mp hj).1
  refine ⟨hw _, hs j x hj H1 _ s1 fun H2 s2 => ⟨_, s2 _ _ e1, ?_, hN _ ⟨?_, ?_⟩⟩⟩
  · rw [sizeLine_eq, List.length_map, List.length_range]; omega
  · intro b u e
    rw [upd_ne (ne_of_none e hL)]
    exact s2 _ _ (s1 _ _ e)
  · rw [upd_same, List.range_succ, List.map_append]
    rfl
theorem cutL_inner {l : List Nat} (h : 2 ≤ l.length) : cutL l (some 1) (some (-1)) = (l.drop 1).dropLast := by
  unfold cutL
  have e1 : HT.sIx l.length 0 (some 1) = 1 := by
    unfold HT.sIx
    show (if (1 : Int) < 0 then ((1 : Int) + (l.length : Int)).toNat else min (1 : Int).toNat l.length) = 1
    rw [if_neg (by decide)]
    show min 1 l.length = 1
    omega
  have e2 : HT.sIx l.length l.length (some (-1)) = l.length - 1 := by
    unfold HT.sIx
    show (if (-1 : Int) < 0 then ((-1 : Int) + (l.length : Int)).toNat else min (-1 : Int).toNat l.length) = l.length - 1
    rw [if_pos (by decide)]
    omega
  rw [e1, e2, List.dropLast_eq_take, List.length_drop]
theorem dpInts {K : Fr} {I : Hp} : ∀ ns : List Int, DpAll K I (ns.map V.int) (ns.map PyData.int)
  | [] => .nil
  | _ :: ns => .cons (.int _) (dpInts ns)
theorem lay_ints : ∀ ns : List Int, PyData.canLayAll0 (ns.map PyData.int) = true
  | [] => by simp [PyData.canLayAll0]
  | n :: ns => by simp [PyData.canLayAll0, PyData.canLay0, lay_ints ns]
theorem depth_ints : ∀ ns : List Int, PyData.depthAll (ns.map PyData.int) = 0
  | [] => by simp [PyData.depthAll]
  | n :: ns => by simp [PyData.depthAll, PyData.depth, depth_ints ns]
theorem shaped_ints (ns : List Int) : SeqAt.shaped (.list (ns.map PyData.int)) = true := by
  simp [SeqAt.shaped, PyData.canLay0, PyData.depth, lay_ints, depth_ints]
theorem natR {n : Nat} (h : n ≤ 100000) : -(2 ^ 62 : Int) ≤ (n : Int) ∧ (n : Int) < 2 ^ 62 := ⟨by omega, by omega⟩
theorem atI0 {α : Type} {a : α} {l : List α} : atI (a :: l) 0 = some a := atI_nat (j := 0) rfl
section
variable {σ : L2.St} {H : Hp} {Q : VK} {trs : List (TE × TE)} {td ty tx tk tv : TE} {QP : List (V × V) → Hp → Prop}
theorem e_disp : tDisp trs σ H Q = (∀ p, H p = none → tPairs trs σ (upd H p (.dK [])) fun ps H2 => H2 p = some (.dK []) ∧ ∃ kvs : List (Key × V), ps = kvs.map (fun kv => (kV kv.1, kv.2)) ∧ kvs.length ≤ 15 ∧ Q (.ref p) (upd H2 p (.dK (mergeK [] kvs)))) := rfl
theorem e_pairs0 : tPairs [] σ H QP = QP [] H := rfl
theorem e_pairs : tPairs ((tk, tv) :: trs) σ H QP = tk σ H (fun x H1 => tv σ H1 fun y H2 => tPairs trs σ H2 fun ps H3 => QP ((x, y) :: ps) H3) := rfl
theorem e_dget2 : tDGet2 td ty tx σ H Q = td σ H (fun x H1 => ∃ a, x = .ref a ∧ IsD H1 a ∧ ty σ H1 fun y H2 => tx σ H2 fun z H3 => ∃ o, DGet H3 a y o ∧ Q (o.getD z) H3) := rfl
end
theorem W.fixP {b D : Addr} {I H H' : Hp} {xs : List V} (w : W b I H) (hD : H D = none) (s : Same H H') (e : H' D = some (.lst xs)) : Go b I H (L2.upd I D (.lst xs)) H' :=
  Mu.fix hD (.same w s) ⟨e, (w.free hD).1, (w.free hD).2.1, (w.free hD).2.2⟩
theorem dpStrs {K : Fr} {I : Hp} : ∀ ls : List (List Nat), DpAll K I (ls.map fun l => V.str (Sl l)) (ls.map fun l => PyData.str (Sl l))
  | [] => .nil
  | _ :: ls => .cons (.str _) (dpStrs ls)
theorem w_mkT2 {K : Fr} {b : Addr} {I H : Hp} {xs : List V} {ds : List PyData} {Q : VK} (w : W b I H) (hl : xs.length ≤ 100000) (d : DpAll K I xs ds) (k : ∀ p I' H', W b I' H' → Same I I' → I' p = some (.tup xs) → Dp K I' (.ref p) (.tuple ds) → Q (.ref p) H') : MkT xs H Q :=
  ⟨szle hl, fun _ hp => k _ _ _ (w.new hp) (sameUpd w.ok hp) upd_same (dpNewT (dpmA d (sameUpd w.ok hp)))⟩
/-- a new tuple told by a promise -/
theorem w_tupP {K : Fr} {b : Addr} {I H H' : Hp} {xs : List V} {ds : List PyData} {Q : VK} (w : W b I H) (s : Same H H') (d : DpAll K I xs ds) (k : ∀ p I' H', W b I' H' → Same I I' → I' p = some (.tup xs) → Dp K I' (.ref p) (.tuple ds) → Q (.ref p) H') : ∀ p, H' p = none → Q (.ref p) (L2.upd H' p (.tup xs)) := fun p hp =>
  k p _ _ ((w.same s).new hp) (sameUpd (w.same s).ok hp) upd_same (dpNewT (dpmA d (sameUpd (w.same s).ok hp)))
/-- a statement that is told of the same slots behind it -/
theorem w_cutS {b : Addr} {t u : TS} {D : Ends} {σ : L2.St} {H : Hp} (h : ∀ M : L2.St → Hp → Prop, (∀ I H', W b I H' → M σ H') → t { D with nx := M } σ H) (h2 : ∀ I H', W b I H' → u D σ H') : Evl.tCut t u D σ H :=
  w_cut (fun σ' H' => σ' = σ ∧ ∃ I, W b I H') (fun M hM => h M fun I H' w => hM σ H' ⟨rfl, I, w⟩) fun σ' H' ⟨e, I, w⟩ => by subst e; exact h2 I H' w
theorem atI1 {α : Type} {a c : α} {l : List α} : atI (a :: c :: l) 1 = some c := atI_nat (j := 1) rfl
/-- a thing that may be written is written -/
theorem W.updM {b p : Addr} {I H : Hp} {o : HO} (w : W b I H) (hI : I p = none) (nb : p ≠ b) (nt : TabNm.nm p = none) : W b I (L2.upd H p o) := by
  refine ⟨fun a u e => ?_, w.nb, ?_, fun P q hq => ?_⟩
  · have : a ≠ p := fun z => by rw [z, hI] at e; cases e
    rw [upd_ne this]; exact w.ok a u e
  · rw [upd_ne (Ne.symm nb)]; exact w.bag
  · have n : P ≠ p := fun z => by rw [z, nt] at hq; cases hq
    obtain ⟨o, ps, hp, r⟩ := w.tb P q hq
    exact ⟨o, ps, by rw [upd_ne n]; exact hp, r⟩
end G

set_option Elab.async false
set_option linter.all false
set_option maxRecDepth 100000
set_option maxHeartbeats 4000000
namespace G
open PySem L2 PySem.Spec PyProof.Rows
variable [TabNm]
/-! defs with *args, calls of them -/
theorem cxUpN {P : Program} {w : World} : StX.CXUp (L2N.CX P w) := by
  rintro outer s H s2 H2 E e s' un kp ho ⟨a, B, H', cls, d, ea, fl, hok, ub, na, os, ag, he⟩
  refine ⟨a, B, H', cls, d, ea, fl, hok, ⟨fun b o q n hb => ub.keep b o (kp b o q) (un.free b o q n (by simp)) hb, fun b o q hb => ub.slot b o (kp b o q) hb, fun b o q n => ub.free b o (kp b o q) (un.free b o q n (by simp)),
    fun b o q hb => ub.there b o (kp b o q) hb, fun b xs q => ub.tups b xs (un.tups b xs q), fun b o xs q => ub.frzs b o xs (un.frzs b o xs q), fun b ps q => ?_⟩, na, os.trans ho, ag, he⟩
  obtain ⟨m1, e1⟩ := un.tbls b ps q
  obtain ⟨m2, e2⟩ := ub.tbls b _ e1
  exact ⟨m1 ++ m2, by rw [e2, Array.append_assoc]⟩
structure CalR (P : Program) (w : World) (K : Fr) (mg : Str → Option Value) (base : Heap) (CX : CXT) (k : Nat) (x : Str) (f : Addr) (sp : Sp) : Prop where
  ok : FnR P w K mg base CX k f sp
  g : mg x = some (.ref f)
  kp : PySem.W.keepIn K (.ref f) = true
section
variable {X : Cx} {x : Str} {p pos : Pos} {e : Expr} {es : List Expr} {kws : List Keyword} {t tk : TA} {k n : Nat} {f : Addr} {fd : FuncData} {ps ks : List Str} {sp : Sp} {V0 : WX} {gV : List V → List V → List V}
theorem run_R {pins : List (Addr × Obj)} {σ : L2.St} {H : Hp} {s : Shared} {Q : VK} {us : List Value} {vs : List V} (C : CalR X.prog X.w X.K X.mg X.base (L2N.CX X.prog X.w) k x f sp) (tk : L2N.Takes X V0) (hr : Room k X.A) (I : Inv X pins σ H s) (r : Vals vs us) (q : sp vs H Q (WE V0 σ)) :
    wpAny (model X.prog X.w) X.A (call (.ref f) us) (EP X pins σ Q) X.xe s := by
  refine wpAny_call (codeAny_mono (C.ok X.A X.stack s H us vs Q (WE V0 σ) hr I.env0 r q) fun r s' hq => ?_)
  cases r with
  | error e => exact L2N.passAt tk σ pins H s e s' I hq
  | ok fl =>
    cases fl with
    | ret u => exact I.after hq
    | next => exact False.elim hq
    | brk => exact False.elim hq
    | cont => exact False.elim hq
theorem pe_callR (C : CalR X.prog X.w X.K X.mg X.base (L2N.CX X.prog X.w) k x f sp) (tk : L2N.Takes X V0) (hr : Room k X.A) (ha : PA X (e :: es) t) (hg : Gl X x := by rfl) (hdb : (x == ("__debug__" : Str)) = false := by decide)
    (he : starEach (e :: es) X.env = (false, eval e X.env) :: starEach es X.env := by rfl) (hpl : (backTo pos (starEach es X.env)).any (·.1) = false := by rfl) :
    PE X (.Call (.Name x p) (e :: es) [] pos) (tCallS sp (WE V0) t) := by
  refine ⟨fun pins s σ H Q I h => ?_⟩
  refine wpAny_Call_Name_kw (ld_glob I hg C.g ?_ hdb)
  refine PySem.W.callWith_K (h₀ := X.base) I.ok.mod.kin C.kp (thn (ha.run pos pins s σ H _ I h) fun us s1 ⟨vs, H1, I1, r, q⟩ => ⟨I1.kIn, ?_⟩) he hpl
  exact run_R C tk hr I1 r q
theorem pe_callR0 (C : CalR X.prog X.w X.K X.mg X.base (L2N.CX X.prog X.w) k x f sp) (tk : L2N.Takes X V0) (hr : Room k X.A) (hg : Gl X x := by rfl) (hdb : (x == ("__debug__" : Str)) = false := by decide) : PE X (.Call (.Name x p) [] [] pos) (tCallS sp (WE V0) tNil) := by
  refine ⟨fun pins s σ H Q I h => ?_⟩
  refine wpAny_Call_Name_kw (ld_glob I hg C.g ?_ hdb)
  exact PySem.W.callWith_K0 I.kIn C.kp (run_R C tk hr I .nil h)
/-- a def that may raise, called by keywords -/
structure CalKS (P : Program) (w : World) (K : Fr) (mg : Str → Option Value) (base : Heap) (k : Nat) (x : Str) (f : Addr) (fd : FuncData) (ps : List Str) (sp : Sp) (n : Nat) (ks : List Str) (gV : List V → List V → List V) : Prop where
  ok : FnOk P w K mg base (L2N.CX P w) k f fd ps sp
  g : mg x = some (.ref f)
  kp : PySem.W.keepIn K (.ref f) = true
  b : ∃ g, KBn K fd ps n ks g gV
def tCallNS (n m : Nat) (sp : Sp) (gV : List V → List V → List V) (E : L2.St → XK) (t tk : TA) : TE := fun σ H Q => t σ H fun vs H1 => tk σ H1 fun zs H2 => vs.length = n ∧ zs.length = m ∧ sp (gV vs zs) H2 Q (E σ)
theorem pe_callKS (C : CalKS X.prog X.w X.K X.mg X.base k x f fd ps sp n ks gV) (tk0 : L2N.Takes X V0) (hr : Room k X.A) (ha : PA X (e :: es) t) (hkw : PK X kws tk) (hg : Gl X x := by rfl)
    (hall : (backToKw pos (keywordEach kws X.env)).all (·.1.isSome) = true := by rfl) (hks : (backToKw pos (keywordEach kws X.env)).filterMap (·.1) = ks := by rfl)
    (hdb : (x == ("__debug__" : Str)) = false := by decide) (he : starEach (e :: es) X.env = (false, eval e X.env) :: starEach es X.env := by rfl)
    (hpl : ((backTo pos (starEach (e :: es) X.env)).any (·.1) || (backToKw pos (keywordEach kws X.env)).any (·.1.isNone)) = false := by rfl) :
    PE X (.Call (.Name x p) (e :: es) kws pos) (tCallNS n ks.length sp gV (WE V0) t tk) := by
  obtain ⟨g, hb⟩ := C.b
  refine ⟨fun pins s σ H Q I h => ?_⟩
  refine wpAny_Call_Name_kw (ld_glob I hg C.g ?_ hdb)
  refine PySem.W.callWith_KW (h₀ := X.base) I.ok.mod.kin C.kp hall (thn (ha.run pos pins s σ H _ I h) fun us s1 ⟨vs, H1, I1, r, q⟩ => ?_) hpl he
  refine thn (hkw.run pos pins s1 σ H1 _ I1 q) fun ws s2 ⟨zs, H2, I2, rz, l1, l2, q2⟩ => ⟨I2.kIn, ?_⟩
  rw [hks]
  have r2 := hb.rel r rz
  refine wpAny_call (codeAny_mono (C.ok.run X.A X.stack s2 H2 ⟨us, ks.zip ws⟩ (g us ws) (gV vs zs) Q (WE V0 σ) hr I2.env0 (hb.to s2 us ws I2.kIn (r.length.symm.trans l1) (rz.length.symm.trans l2)) r2 q2) fun r s' hq => ?_)
  cases r with
  | error e => exact L2N.passAt tk0 σ pins H2 s2 e s' I2 hq
  | ok fl =>
    cases fl with
    | ret u => exact I2.after hq
    | next => exact False.elim hq
    | brk => exact False.elim hq
    | cont => exact False.elim hq
end
section
variable {P : Program} {w : World} {K : Fr} {mg : Str → Option Value} {base : Heap} {x qual : Str} {st : Stmt} {f : Addr} {fd : FuncData} {N ps : List Str} {k : Nat} {sp : Sp}
/-- a def(*v) that may raise -/
theorem okStar {pv : Str} (F : Fun K x qual st f fd) (S : FnScope N (ps ++ [pv]) (defScope st))
    (hb : ∀ (kV doc pm : Value) (an : Option Addr) (cdv ct : Value) (us rest : List Value), us.length = ps.length → bindArgs (PySem.W.fnOf x qual (defArgs st) (defBody st) (defScope st) .none kV doc pm an cdv ct) ⟨us ++ rest, []⟩ = (newTuple rest >>= fun t => pure (ps.zip us ++ [(pv, t)])))
    (hbody : ∀ (cdv : Value) (A : Around) (outer : List Env) (s : Shared) (H : Hp) (vs : List V) (Q : VK) (E : XK), Room k (A.deeper (envOfC qual (defScope st) s.heap.objs.size f cdv)) → sp vs H Q E →
      ∃ t, PSs (cxOf (L2N.CX P w) P w K mg base N qual (defScope st) f cdv A outer s H E) (defBody st) t ∧ t { nx := fun _ H' => Q .non H', rt := Q } (start N vs) H) :
    FnR P w K mg base (L2N.CX P w) (k + 1) f (fun vs H Q E => ∃ ws rest, vs = ws ++ rest ∧ ws.length = ps.length ∧ rest.length ≤ sizeLine ∧ ∀ p, H p = Option.none → sp (ws ++ [V.ref p]) (upd H p (.tup rest)) Q E) := by
  obtain ⟨oc, od, kV, doc, pm, an, cdv, ct, osl, rfl, lk, hcd⟩ := F.ex
  exact StX.fn_star lk hcd S cxUpN (hb _ _ _ _ _ _) fun A outer s H vs Q E hr hsp => hbody cdv A outer s H vs Q E hr hsp
end
section
variable {K : Fr} {σ : L2.St} {H : Hp} {Q : VK} {al tk : TA}
theorem e_callNS {n m : Nat} {sp : Sp} {gV : List V → List V → List V} {E : L2.St → XK} : tCallNS n m sp gV E al tk σ H Q = al σ H (fun vs H1 => tk σ H1 fun zs H2 => vs.length = n ∧ zs.length = m ∧ sp (gV vs zs) H2 Q (E σ)) := rfl
end
/-! calls that give a word, or raise -/
inductive WO
  | ok (l : List Nat)
  | err (m : Str) (n : Int)
  deriving DecidableEq
def WO.out : WO → Out
  | .ok l => .val (.str (Sl l))
  | .err m n => .err m (.int n)
def spO (K : Fr) (mg : Str → Option Value) (C : List V → WO → Prop) : Sp := fun vs H Q E => ∃ o, C vs o ∧ (∀ l, o = .ok l → ∀ H', Same H H' → Q (.str (Sl l)) H') ∧ ∀ m n, o = .err m n → ∀ H', Same H H' → ∀ fl, (m, fl) ∈ ErrFs → Raised K mg m fl (.int n) E H'
theorem w_O {K : Fr} {mg : Str → Option Value} {C : List V → WO → Prop} {vs : List V} {l : List Nat} {H : Hp} {Q : VK} {E : XK} (c : C vs (.ok l)) (q : ∀ H', Same H H' → Q (.str (Sl l)) H') : spO K mg C vs H Q E :=
  ⟨_, c, fun l' e H' s => by cases e; exact q H' s, fun m n e => by cases e⟩
theorem thr_O {P : Program} {w : World} {K : Fr} {mg : Str → Option Value} {k : Nat} {B : Heap} {le : LE} {f : Addr} {os : List (Addr × HO)} {C : List V → WO → Prop} {ta : TA} {σ0 : L2.St} {I : Hp} {o : WO}
    (T : Thunk P w K mg k le f os (fun E => tCallS (spO K mg C) (WE fun cls d x H => E cls d H) ta)) (ce : CellE B le.cells le.N le.sc σ0) (ho : ∀ p ∈ os, I p.1 = some p.2)
    (hta : ∀ H (Q : List V → Hp → Prop), (∀ vs H', Same H H' → C vs o → Q vs H') → ta σ0 H Q) : ThR P w K mg k B I f o.out := by
  refine ⟨os, _, le, σ0, T, ce, ho, fun I' H Q E s1 s2 hv he => ?_⟩
  have pu : ∀ {H'}, Same H H' → Pu I' H I' H' := fun s => ⟨⟨fun _ _ e => e, s2.trans s, fun _ e _ => e⟩, s⟩
  refine hta _ _ fun vs H1 t1 c => ⟨o, c, fun l e H' s => ?_, fun m n e H' s fl2 hf2 => ?_⟩
  · subst e
    exact hv _ _ _ (.str (Sl l)) rfl (pu (t1.trans s)) (.str _)
  · subst e
    exact he m (.int n) fl2 _ _ _ rfl hf2 (pu (t1.trans s)) (.int _)
/-- the first wrong word of some -/
def wErr (l : List Nat) : Option (Str × Int) := match bad l with
  | some i => some (("InvalidWord" : Str), (i : Int))
  | none => if 60 < l.length then some (("TooLong" : Str), (60 : Int)) else none
theorem wErr_ok {l : List Nat} (al : AL l) (h : l.length ≤ 60) : wErr l = none := by unfold wErr; rw [bad_none.mpr al]; show (if _ then _ else _) = _; rw [if_neg (by omega)]
theorem wErr_none {l : List Nat} (h : wErr l = none) : AL l ∧ l.length ≤ 60 := by
  unfold wErr at h
  cases e : bad l with
  | some i => rw [e] at h; cases h
  | none =>
    rw [e] at h
    refine ⟨bad_none.mp e, ?_⟩
    have h : (if 60 < l.length then some (("TooLong" : Str), (60 : Int)) else none) = none := h
    split at h
    · cases h
    · omega
theorem wErr_bad {l : List Nat} {i : Nat} (h : bad l = some i) : wErr l = some (("InvalidWord" : Str), (i : Int)) := by unfold wErr; rw [h]
theorem wErr_long {l : List Nat} (al : AL l) (h : 60 < l.length) : wErr l = some (("TooLong" : Str), (60 : Int)) := by unfold wErr; rw [bad_none.mpr al]; show (if _ then _ else _) = _; rw [if_pos h]
def limO (r : List Nat) : WO := if 60 < r.length then .err "TooLong" 60 else .ok r
def askO (ls : List (List Nat)) (o : WO) : WO := match ls.findSome? wErr with
  | some (m, n) => .err m n
  | none => o
theorem askO_nil {o : WO} : askO [] o = o := rfl
theorem askO_ok {l : List Nat} {ls : List (List Nat)} {o : WO} (h : wErr l = none) : askO (l :: ls) o = askO ls o := by unfold askO; rw [List.findSome?_cons, h]
theorem askO_err {l : List Nat} {ls : List (List Nat)} {o : WO} {m : Str} {n : Int} (h : wErr l = some (m, n)) : askO (l :: ls) o = .err m n := by unfold askO; rw [List.findSome?_cons, h]
/-- check_word, told by wErr -/
theorem w_check {K : Fr} {mg : Str → Option Value} {f : List Nat → V} {l : List Nat} {H : Hp} {Q : VK} {E : XK} (hl : l.length ≤ 100000) (he : ∀ m n, wErr l = some (m, n) → ∀ H', Same H H' → ∀ fl, (m, fl) ∈ ErrFs → Raised K mg m fl (.int n) E H') (q : wErr l = none → ∀ H', Same H H' → Q (f l) H') : sp_word K mg f [.str (Sl l)] H Q E :=
  ⟨l, rfl, hl, fun i hi H' s => he _ _ (wErr_bad hi) H' s "position" (by decide +kernel), fun hb h6 H' s => he _ _ (wErr_long (bad_none.mp hb) h6) H' s "limit" (by decide +kernel), fun hb h6 H' s => q (wErr_ok (bad_none.mp hb) h6) H' s⟩
/-- a lambda made: everything else stands -/
theorem w_lamG {P : Program} {w : World} {K : Fr} {mg : Str → Option Value} {k : Nat} {le : LE} {Pt b : Addr} {q : Str} {tb : XK → TE} {σ : L2.St} {I H : Hp} {Q : VK} (wb : W b I H) (hq : TabNm.nm Pt = some q)
    (h : ∀ f os I' H', Go b I H I' H' → (∀ p ∈ os, I' p.1 = some p.2) → Thunk P w K mg k le f os tb → Q (.ref f) H') : tLamB P w K mg k le Pt q tb σ H Q := by
  refine ⟨I, wb.ok, wb.tb Pt q hq, fun f os I1 H1 T st => h f os I1 H1 ⟨st.im, ⟨st.ok, ?_, ?_, fun P2 q2 h2 => ?_⟩, st.fr, fun a o e _ nt => st.kp a o (fun z => by rw [z, hq] at nt; cases nt) e⟩ st.os T⟩
  · exact st.fr b wb.nb wb.hb
  · obtain ⟨o, ho, hbo⟩ := wb.bag
    refine ⟨o, st.kp b o (fun z => ?_) ho, hbo.mono st.im⟩
    obtain ⟨ps, hp, _⟩ := (wb.tb Pt q hq).tab
    obtain ⟨l, ns, i, x, s, c, e, _⟩ := hbo
    rw [← z, ho, e] at hp
    cases hp
  · by_cases e : P2 = Pt
    · subst e
      rw [hq] at h2
      cases h2
      exact st.tb
    · obtain ⟨o2, ps, hp, ht, r⟩ := wb.tb P2 q2 h2
      refine ⟨st.fr P2 o2 (by rw [hp]; exact fun z => by cases z), ps, st.kp P2 _ e hp, ht, fun pos cv hc => ?_⟩
      obtain ⟨c, e1, e2⟩ := r pos cv hc
      exact ⟨c, e1, st.im _ _ e2⟩
theorem Fun.kbn {K : Fr} {x qual : Str} {st : Stmt} {f : Addr} {fd : FuncData} {ps : List Str} (F : Fun K x qual st f fd) (n : Nat) (ks : List Str) (g : {α : Type} → List α → List α → List α)
    (hrel : ∀ {vs zs : List V} {us ws : List Value}, Vals vs us → Vals zs ws → Vals (g vs zs) (g us ws))
    (h : ∀ (kV doc pm : Value) (an : Option Addr) (cdv ct : Value) (us ws : List Value), us.length = n → ws.length = ks.length → bindArgs (PySem.W.fnOf x qual (defArgs st) (defBody st) (defScope st) .none kV doc pm an cdv ct) ⟨us, ks.zip ws⟩ = pure (ps.zip (g us ws))) :
    ∃ gg, KBn K fd ps n ks gg (fun vs zs => g vs zs) := by
  obtain ⟨oc, od, kV, doc, pm, an, cdv, ct, osl, rfl, lk, hcd⟩ := F.ex
  exact ⟨fun us ws => g us ws, ⟨fun s us ws _ l1 l2 => .of_eq (h _ _ _ _ _ _ us ws l1 l2), fun r1 r2 => hrel r1 r2⟩⟩
/-! powers and commutators -/
def powW (a : List Nat) (n : Int) : List Nat := repL n.natAbs (if 0 ≤ n then a else inv a)
def powO (a : List Nat) (n : Int) : WO := limO (red (powW a n))
def commW (a b : List Nat) : List Nat := a ++ b ++ inv a ++ inv b
theorem limO_ok {r : List Nat} (h : r.length ≤ 60) : limO r = .ok r := by unfold limO; rw [if_neg (by omega)]
theorem limO_long {r : List Nat} (h : 60 < r.length) : limO r = .err "TooLong" 60 := by unfold limO; rw [if_pos h]
theorem AL.powW {a : List Nat} (h : AL a) (n : Int) : AL (powW a n) := by
  unfold G.powW
  refine AL.rep ?_ _
  split
  · exact h
  · exact h.inv
theorem thr_G {P : Program} {w : World} {K : Fr} {mg : Str → Option Value} {k : Nat} {B : Heap} {le : LE} {f : Addr} {os : List (Addr × HO)} {C : List V → WO → Prop} {tb : XK → TE} {σ0 : L2.St} {I : Hp} {o : WO}
    (T : Thunk P w K mg k le f os tb) (ce : CellE B le.cells le.N le.sc σ0) (ho : ∀ p ∈ os, I p.1 = some p.2) (hta : ∀ E H Q, (∀ vs H', Same H H' → C vs o → spO K mg C vs H' Q E) → tb E σ0 H Q) : ThR P w K mg k B I f o.out := by
  refine ⟨os, _, le, σ0, T, ce, ho, fun I' H Q E s1 s2 hv he => hta E H Q fun vs H1 t1 c => ?_⟩
  have pu : ∀ {H'}, Same H H' → Pu I' H I' H' := fun s => ⟨⟨fun _ _ e => e, s2.trans s, fun _ e _ => e⟩, s⟩
  refine ⟨o, c, fun l e H' s => ?_, fun m n e H' s fl2 hf2 => ?_⟩
  · subst e
    exact hv _ _ _ (.str (Sl l)) rfl (pu (t1.trans s)) (.str _)
  · subst e
    exact he m (.int n) fl2 _ _ _ rfl hf2 (pu (t1.trans s)) (.int _)
/-- a list of anything; two of them in a row -/
theorem w_lstW {b : Addr} {I H : Hp} {xs : List V} {Q : VK} (w : W b I H) (hl : xs.length ≤ 100000) (k : ∀ p I' H', W b I' H' → Same I I' → I' p = some (.lst xs) → Q (.ref p) H') : MkL xs H Q :=
  ⟨szle hl, fun _ hp => k _ _ _ (w.new hp) (sameUpd w.ok hp) upd_same⟩
theorem w_catR {b : Addr} {I H : Hp} {p q : Addr} {xs ys : List V} {Q : VK} (w : W b I H) (hp : I p = some (.lst xs)) (hq : I q = some (.lst ys)) (hl : xs.length + ys.length ≤ 100000)
    (k : ∀ r I' H', W b I' H' → Same I I' → I' r = some (.lst (xs ++ ys)) → Q (.ref r) H') : rCat (.ref p) (.ref q) H Q :=
  ⟨p, q, xs, ys, rfl, rfl, w.ok _ _ hp, w.ok _ _ hq, szle hl, fun _ hr => k _ _ _ (w.new hr) (sameUpd w.ok hr) upd_same⟩
/-- the tries of some lambdas that stand in a list -/
theorem w_tries {P : Program} {w : World} {K : Fr} {mg : Str → Option Value} {k : Nat} {B : Heap} {b : Addr} {I H : Hp} {L : Addr} {fs : List Addr} {os : List Out} {Q : VK} {E : XK} (wb : W b I H) (hL : I L = some (.lst (fs.map V.ref))) (hl : fs.length ≤ 1000) (T : ThRs P w K mg k B I fs os)
    (q : ∀ v I' H', W b I' H' → Same I I' → Dp K I' v (.list (os.map Out.data)) → Q v H') : sp_l_tries P w K mg k B [.ref L] H Q E :=
  ⟨I, L, fs, os, rfl, wb.ok, SqL.of hL, hl, T, fun v I' H' pu d => q v I' H' (wb.pu pu) pu.im d⟩
theorem w_try {P : Program} {w : World} {K : Fr} {mg : Str → Option Value} {k : Nat} {B : Heap} {b : Addr} {I H : Hp} {f : Addr} {o : Out} {Q : VK} {E : XK} (wb : W b I H) (T : ThR P w K mg k B I f o) (q : ∀ v I' H', W b I' H' → Same I I' → Dp K I' v o.data → Q v H') : sp_l_try P w K mg k B [.ref f] H Q E :=
  T.try_ wb.ok fun v I' H' pu d => q v I' H' (wb.pu pu) pu.im d
theorem pe_cal0 {X : Cx} {x : Str} {p pos : Pos} {k : Nat} {f : Addr} {fd : FuncData} {ps : List Str} {sp : Sp} (C : Cal X.prog X.w X.K X.mg X.base CX0 k x f fd ps sp) (hr : Room k X.A) (hg : Gl X x := by rfl) (hdb : (x == ("__debug__" : Str)) = false := by decide) :
    PE X (.Call (.Name x p) [] [] pos) (tCall sp [] E0 tNil) := pe_call0 C.ok hr hg C.g C.kp C.b .nil pass0 hdb
theorem lkd_out (o : WO) : lkd 4 o.out.data = true := by cases o <;> rfl
theorem powW_pos {a : List Nat} {n : Int} (h : 0 < n) : powW a n = repL n.toNat a := by
  unfold powW
  rw [if_pos (by omega), show n.natAbs = n.toNat by omega]
theorem powW_neg {a : List Nat} {n : Int} (h : ¬ 0 < n) : powW a n = repL (0 - n).toNat (inv a) := by
  unfold powW
  by_cases h0 : n = 0
  · subst h0
    rfl
  · rw [if_neg (by omega), show n.natAbs = (0 - n).toNat by omega]
theorem askO_all {ls : List (List Nat)} {o : WO} (h : ∀ l ∈ ls, wErr l = none) : askO ls o = o := by
  unfold askO
  rw [List.findSome?_eq_none_iff.mpr h]
theorem askO1 {l : List Nat} {o : WO} (h : wErr l = none) : askO [l] o = o := askO_ok h
theorem askO2 {l m : List Nat} {o : WO} (h : wErr l = none) (h2 : wErr m = none) : askO [l, m] o = o := (askO_ok h).trans (askO_ok h2)
theorem w_mkTG {K : Fr} {b : Addr} {I H : Hp} {xs : List V} {ds : List PyData} {Q : VK} (w : W b I H) (hl : xs.length ≤ 100000) (d : DpAll K I xs ds) (k : ∀ v I' H', Go b I H I' H' → Dp K I' v (.tuple ds) → Q v H') : MkT xs H Q :=
  ⟨szle hl, fun _ hp => k _ _ _ (Go.new w hp) (dpNewT (dpmA d (sameUpd w.ok hp)))⟩
theorem w_mkLG {K : Fr} {b : Addr} {I H : Hp} {xs : List V} {ds : List PyData} {Q : VK} (w : W b I H) (hl : xs.length ≤ 100000) (d : DpAll K I xs ds) (k : ∀ p I' H', Go b I H I' H' → I' p = some (.lst xs) → Dp K I' (.ref p) (.list ds) → Q (.ref p) H') : MkL xs H Q :=
  ⟨szle hl, fun _ hp => k _ _ _ (Go.new w hp) upd_same (dpNewL (dpmA d (sameUpd w.ok hp)))⟩
/-- comprehensions whose parts make data -/
theorem w_lcWL {K : Fr} {a b L : Addr} {xs : List V} {j : Nat} {te : TE} {vs : List Nat} {σ : L2.St} {I H : Hp} {Q : VK} (hx : I a = some (.lst xs)) (w : W b I H) (hL : H L = none) (hn : xs.length ≤ 100000) (hw : ∀ v : V, wipe ((wipe σ vs).set j (some v)) vs = wipe σ vs) (f : Nat → PyData)
    (hs : ∀ i x I1 H1 Q, xs[i]? = some x → Go b I H I1 H1 → (∀ v I2 H2, Go b I1 H1 I2 H2 → Dp K I2 v (f i) → Q v H2) → te ((wipe σ vs).set j (some x)) H1 Q)
    (hd : ∀ ys I' H', Go b I H I' H' → I' L = some (.lst ys) → DpAll K I' ys ((List.range xs.length).map f) → Q (.ref L) H') : LB (Itl K a) (gName j) tYes te vs σ L Q H := by
  refine w_lcW (walk_list (K := K) (a := a) (xs := xs)) hn w hL (fun i I' ys => DpAll K I' ys ((List.range i).map f)) .nil (fun I' H' g => SqL.of (g.w.ok _ _ (g.im _ _ hx))) ?_ fun ys I' H' g s1 s2 hl r => hd ys _ H' g upd_same (dpmA r s2)
  rintro i x ys I1 H1 H2 hi g m r ⟨rfl, hxi⟩ N hN
  refine ⟨hw _, hs i x I1 H2 _ hxi g fun v I3 H3 g3 dv => hN v I3 H3 g3 ?_⟩
  rw [List.range_succ, List.map_append]
  exact dpAppend (dpmA r g3.im) (.cons dv .nil)
theorem w_lcWR {K : Fr} {b L : Addr} {lo : Int} {n j : Nat} {te : TE} {vs : List Nat} {σ : L2.St} {I H : Hp} {Q : VK} (w : W b I H) (hL : H L = none) (hn : n ≤ 100000) (hw : ∀ v : V, wipe ((wipe σ vs).set j (some v)) vs = wipe σ vs) (f : Nat → PyData)
    (hs : ∀ i I1 H1 Q, i < n → Go b I H I1 H1 → (∀ v I2 H2, Go b I1 H1 I2 H2 → Dp K I2 v (f i) → Q v H2) → te ((wipe σ vs).set j (some (.int (lo + (i : Nat))))) H1 Q)
    (hd : ∀ ys I' H', Go b I H I' H' → I' L = some (.lst ys) → DpAll K I' ys ((List.range n).map f) → Q (.ref L) H') : LB (Itr lo n) (gName j) tYes te vs σ L Q H := by
  refine w_lcW walk_range hn w hL (fun i I' ys => DpAll K I' ys ((List.range i).map f)) .nil (fun _ _ _ => trivial) ?_ fun ys I' H' g s1 s2 hl r => hd ys _ H' g upd_same (dpmA r s2)
  rintro i x ys I1 H1 H2 hi g m r ⟨rfl, rfl⟩ N hN
  refine ⟨hw _, hs i I1 _ _ hi g fun v I3 H3 g3 dv => hN v I3 H3 g3 ?_⟩
  rw [List.range_succ, List.map_append]
  exact dpAppend (dpmA r g3.im) (.cons dv .nil)
end G

set_option Elab.async false
set_option linter.all false
set_option maxRecDepth 100000
set_option maxHeartbeats 4000000
open PySem L2 G
theorem lt0 : Str.ofString "" = Sl [] := by decide +kernel
theorem lt1 : Str.ofString " " = Sl [32] := by decide +kernel
theorem lt2 : Str.ofString "1" = Sl [49] := by decide +kernel
theorem lt3 : Str.ofString "?" = Sl [63] := by decide +kernel
theorem lt4 : Str.ofString "A" = Sl [65] := by decide +kernel
theorem lt5 : Str.ofString "B" = Sl [66] := by decide +kernel
theorem lt6 : Str.ofString "Bc" = Sl [66, 99] := by decide +kernel
theorem lt7 : Str.ofString "DC" = Sl [68, 67] := by decide +kernel
theorem lt8 : Str.ofString "a" = Sl [97] := by decide +kernel
theorem lt9 : Str.ofString "aA" = Sl [97, 65] := by decide +kernel
theorem lt10 : Str.ofString "aAbB" = Sl [97, 65, 98, 66] := by decide +kernel
theorem lt11 : Str.ofString "aAbBcCdD" = Sl [97, 65, 98, 66, 99, 67, 100, 68] := by decide +kernel
theorem lt12 : Str.ofString "ab" = Sl [97, 98] := by decide +kernel
theorem lt13 : Str.ofString "abA" = Sl [97, 98, 65] := by decide +kernel
theorem lt14 : Str.ofString "abAB" = Sl [97, 98, 65, 66] := by decide +kernel
theorem lt15 : Str.ofString "abB" = Sl [97, 98, 66] := by decide +kernel
theorem lt16 : Str.ofString "abCd" = Sl [97, 98, 67, 100] := by decide +kernel
theorem lt17 : Str.ofString "b" = Sl [98] := by decide +kernel
theorem lt18 : Str.ofString "c" = Sl [99] := by decide +kernel
theorem lt19 : Str.ofString "d" = Sl [100] := by decide +kernel
theorem lt20 : Str.ofString "x" = Sl [120] := by decide +kernel
local macro_rules | `(tactic| wtm_at "e") => `(tactic| simp only [e_callNS, Int.toNat_natCast, Int.zero_add, e_disp, e_pairs0, e_pairs, e_dget2, e_minS, e_minSD, e_CKw, e_revS, e_ixD, e_slSl, e_ixSl, sl_len, sl_cat, sl_eq, sl_tl, sl_size, e_mulS, cutL_to, cutL_from, cutL_mid, cutL_last, e_callS, e_mkE, e_xat, e_callP, e_callL, e_iEnumS, WE, e_seq, e_next, e_brk, e_cont, e_drop, e_ret, e_retN, e_asg, e_if, e_par, e_par3, e_for, e_name, e_gsub, e_gtup, e_gnil, e_gcons, e_setL, e_var, e_c, e_op, e_un, e_nil, e_cons, e_tup, e_lst, e_call, e_CB, e_callN, e_test, e_B, e_and, e_or, e_not, e_andV, e_orV, e_notV, e_ifE, e_chain, e_sl, e_nopart, e_part, e_bm, e_bm0, e_m0, e_m1, e_fmt, e_js0, e_js, e_lc, e_yes, e_iList, e_iTup, e_iR1, e_iR2, e_iStr, e_iEnum, e_I0, e_I, e_U, e_eqI, e_neI, e_eqS, e_neS, e_eqB, e_neB, e_isB, e_notB, e_ixL, e_ixT, e_slL, e_app, e_pop, e_K, e_noxK, and_assoc, reduceCtorEq, false_and, and_false, exists_false, false_or, or_false, isB_dict_none, isB_dict_bool, isB_dict_int, isB_dict_str, isB_dict_list, isB_dict_tuple, isB_list_none, isB_list_bool, isB_list_int, isB_list_str, isB_list_list, isB_list_tuple, isB_tuple_none, isB_tuple_bool, isB_tuple_int, isB_tuple_str, isB_tuple_list, isB_tuple_tuple, isB_bool_none, isB_bool_bool, isB_bool_int, isB_bool_str, isB_bool_list, isB_bool_tuple, isB_int_none, isB_int_bool, isB_int_int, isB_int_str, isB_int_list, isB_int_tuple, isB_str_none, isB_str_bool, isB_str_int, isB_str_str, isB_str_list, isB_str_tuple, upd_upd, Int.reduceToNat, e_lenR, e_lenS, e_lenV, e_lenQ, decide_true, decide_false, Bool.not_true, Bool.not_false, Bool.or_false, Bool.or_true, Bool.false_or, Bool.true_or, not_true_eq_false, not_false_eq_true, ne_eq, e_szT, e_szL, List.cons.injEq, List.append_nil, V.int.injEq, V.str.injEq, V.bl.injEq, V.ref.injEq, V.ty.injEq, and_true, true_and, and_self, exists_eq_left, exists_eq_left', exists_eq, exists_eq', exists_eq_right, exists_eq_right', exists_and_left, L2.start, List.map_cons, List.map_nil, List.length_cons, List.length_nil, List.replicate_zero, List.replicate_succ, List.cons_append, List.nil_append, Nat.zero_add, Nat.sub_self, Nat.reduceSub, Nat.reduceAdd, Nat.add_sub_cancel, List.set_cons_zero, List.set_cons_succ, List.getElem?_cons_zero, List.getElem?_cons_succ, Option.some.injEq, Nat.reduceLeDiff, Nat.reduceLT, decide_eq_true_eq, Bool.not_eq_true', decide_eq_false_iff_not, Bool.false_eq_true, if_true, if_false, reduceIte, wipe])
local macro_rules | `(tactic| wtm_at "k") => `(tactic| first | ((with_reducible refine w_kt ?_); try wtm_at "e") | (wtm_at "e"; (with_reducible refine w_kt ?_); try wtm_at "e"))
local macro_rules | `(tactic| wtm_at "rb") => `(tactic| repeat (first | refine ⟨_, SqL.of upd_same, _, rfl, ?_⟩ | refine ⟨_, upd_same, _, rfl, ?_⟩ | wtm_at "e"))
local macro_rules | `(tactic| wtm_at "krb") => `(tactic| ((with_reducible refine w_kt ?_); wtm_at "rb"))
local macro_rules | `(tactic| wtm_at "dp") => `(tactic| first | assumption | (refine dpm ?_ (by assumption); wtm_at "dp"))
local macro_rules | `(tactic| wtm_at "E") => `(tactic| try wtm_at "e")
local macro_rules | `(tactic| wtm_at "s1") => `(tactic| first | ((with_reducible refine' s_var ?hv ?_); (case hv => exact rfl)) | with_reducible refine s_c ?_ | with_reducible refine s_I0 ?_ | with_reducible refine s_U ?_ | with_reducible refine s_seq ?_ | with_reducible refine s_next ?_ | with_reducible refine s_brk ?_ | with_reducible refine s_cont ?_ | with_reducible refine s_drop ?_ | with_reducible refine s_ret ?_ | with_reducible refine s_retN ?_ | with_reducible refine s_asg ?_ | with_reducible refine s_if ?_ | with_reducible refine s_par ?_ | with_reducible refine s_par3 ?_ | with_reducible refine s_for ?_ | with_reducible refine s_name ?_ | with_reducible refine s_gsub ?_ | with_reducible refine s_gnil ?_ | with_reducible refine s_op ?_ | with_reducible refine s_un ?_ | with_reducible refine s_nil ?_ | with_reducible refine s_cons ?_ | with_reducible refine s_tup ?_ | with_reducible refine s_lst ?_ | with_reducible refine s_call0 ?_ | with_reducible refine s_call ?_ | with_reducible refine s_callN ?_ | with_reducible refine s_CB ?_ | with_reducible refine s_test ?_ | with_reducible refine s_B ?_ | with_reducible refine s_and ?_ | with_reducible refine s_or ?_ | with_reducible refine s_not ?_ | with_reducible refine s_andV ?_ | with_reducible refine s_orV ?_ | with_reducible refine s_notV ?_ | with_reducible refine s_ifE ?_ | with_reducible refine s_chain ?_ | with_reducible refine s_sl ?_ | with_reducible refine s_nopart ?_ | with_reducible refine s_part ?_ | with_reducible refine s_bm ?_ | with_reducible refine s_bm0 ?_ | with_reducible refine s_m0 ?_ | with_reducible refine s_m1 ?_ | with_reducible refine s_fmt ?_ | with_reducible refine s_js0 ?_ | with_reducible refine s_js ?_ | with_reducible refine s_lc ?_ | with_reducible refine s_yes ?_ | with_reducible refine s_iList ?_ | with_reducible refine s_iTup ?_ | with_reducible refine s_iR1 ?_ | with_reducible refine s_iR2 ?_ | with_reducible refine s_iStr ?_ | with_reducible refine s_iEnum ?_)
local macro_rules | `(tactic| wtm_at "s") => `(tactic| repeat wtm_at "s1")
local macro_rules | `(tactic| wtm_at "el") => `(tactic| first | (wtm_at "e"; try (simp only [lt0, lt1, lt2, lt3, lt4, lt5, lt6, lt7, lt8, lt9, lt10, lt11, lt12, lt13, lt14, lt15, lt16, lt17, lt18, lt19, lt20]; try wtm_at "e")) | (simp only [lt0, lt1, lt2, lt3, lt4, lt5, lt6, lt7, lt8, lt9, lt10, lt11, lt12, lt13, lt14, lt15, lt16, lt17, lt18, lt19, lt20]; try wtm_at "e"))
local macro_rules | `(tactic| wtm_at "l") => `(tactic| simp only [lt0, lt1, lt2, lt3, lt4, lt5, lt6, lt7, lt8, lt9, lt10, lt11, lt12, lt13, lt14, lt15, lt16, lt17, lt18, lt19, lt20])
local macro_rules | `(tactic| wtm_at "kl") => `(tactic| (wtm_at "k"; try wtm_at "el"))
local macro_rules | `(tactic| wtm_at "sh") => `(tactic| simp [SeqAt.shaped, PyData.canLay0, PyData.canLayAll0, PyData.depth, PyData.depthAll, so_InvalidWord, so_InvalidText, so_InvalidCount, so_InvalidCopies, so_InvalidCapacity, so_TooLong, so_TooMany, so_Full, so_Unbalanced, so_InvalidImage, so_NotUndoable, so_InUse, so_InvalidPage, so_InvalidName, so_WrongKind, so_DuplicateName, so_Circular, so_UnknownName, so_InvalidStrip, so_InvalidPatch, so_InvalidWeight, so_InvalidSurface, so_InvalidCommand, so_value, so_NothingLeft])
namespace G218
open PySem L2 G

def top (i : Nat) : Stmt := PySem.Challenge.pw_hemprice_k04_powers_and_commutators.main.body.getD i (.Pass ⟨0, 0, 0, 0⟩)
abbrev s_check_word : Stmt := top 10
abbrev nl_check_word : List Str := ["word", "position", "letter"]
theorem sc_check_word : FnScope nl_check_word ["word"] (defScope s_check_word) := ⟨rfl, rfl, rfl, by decide +kernel, rfl, by decide +kernel, by decide +kernel⟩
abbrev s_opposite_word : Stmt := top 11
abbrev nl_opposite_word : List Str := ["word", "letter"]
theorem sc_opposite_word : FnScope nl_opposite_word ["word"] (defScope s_opposite_word) := ⟨rfl, rfl, rfl, by decide +kernel, rfl, by decide +kernel, by decide +kernel⟩
abbrev s_reduced_word : Stmt := top 12
abbrev nl_reduced_word : List Str := ["word", "kept", "letter"]
theorem sc_reduced_word : FnScope nl_reduced_word ["word"] (defScope s_reduced_word) := ⟨rfl, rfl, rfl, by decide +kernel, rfl, by decide +kernel, by decide +kernel⟩
abbrev s_limited : Stmt := top 13
abbrev nl_limited : List Str := ["word"]
theorem sc_limited : FnScope nl_limited ["word"] (defScope s_limited) := ⟨rfl, rfl, rfl, by decide +kernel, rfl, by decide +kernel, by decide +kernel⟩
abbrev s_cyclic_part : Stmt := top 19
abbrev nl_cyclic_part : List Str := ["word", "start", "end"]
theorem sc_cyclic_part : FnScope nl_cyclic_part ["word"] (defScope s_cyclic_part) := ⟨rfl, rfl, rfl, by decide +kernel, rfl, by decide +kernel, by decide +kernel⟩
abbrev s_power_of : Stmt := top 14
abbrev nl_power_of : List Str := ["word", "exponent", "base", "core", "spare", "half"]
theorem sc_power_of : FnScope nl_power_of ["word", "exponent"] (defScope s_power_of) := ⟨rfl, rfl, rfl, by decide +kernel, rfl, by decide +kernel, by decide +kernel⟩
abbrev s_power : Stmt := top 15
abbrev nl_power : List Str := ["word", "exponent"]
theorem sc_power : FnScope nl_power ["word", "exponent"] (defScope s_power) := ⟨rfl, rfl, rfl, by decide +kernel, rfl, by decide +kernel, by decide +kernel⟩
abbrev s_commutator_of : Stmt := top 16
abbrev nl_commutator_of : List Str := ["one", "other"]
theorem sc_commutator_of : FnScope nl_commutator_of ["one", "other"] (defScope s_commutator_of) := ⟨rfl, rfl, rfl, by decide +kernel, rfl, by decide +kernel, by decide +kernel⟩
abbrev s_commutator : Stmt := top 17
abbrev nl_commutator : List Str := ["one", "other"]
theorem sc_commutator : FnScope nl_commutator ["one", "other"] (defScope s_commutator) := ⟨rfl, rfl, rfl, by decide +kernel, rfl, by decide +kernel, by decide +kernel⟩
abbrev s_joined : Stmt := top 18
abbrev nl_joined : List Str := ["words", "word"]
theorem sc_joined : FnScope nl_joined ["words"] (defScope s_joined) := ⟨rfl, rfl, rfl, by decide +kernel, rfl, by decide +kernel, by decide +kernel⟩
abbrev s_l_bag : Stmt := top 21
abbrev nl_l_bag : List Str := ["_law_script"]
theorem sc_l_bag : FnScope nl_l_bag ["_law_script"] (defScope s_l_bag) := ⟨rfl, rfl, rfl, by decide +kernel, rfl, by decide +kernel, by decide +kernel⟩
abbrev s_l_draw : Stmt := top 22
abbrev nl_l_draw : List Str := ["_law_bag_here", "_law_many", "_law_cell", "_law_found", "_law_seed"]
theorem sc_l_draw : FnScope nl_l_draw ["_law_bag_here", "_law_many"] (defScope s_l_draw) := ⟨rfl, rfl, rfl, by decide +kernel, rfl, by decide +kernel, by decide +kernel⟩
abbrev s_l_any : Stmt := top 23
abbrev nl_l_any : List Str := ["_law_bag_here", "_law_things"]
theorem sc_l_any : FnScope nl_l_any ["_law_bag_here", "_law_things"] (defScope s_l_any) := ⟨rfl, rfl, rfl, by decide +kernel, rfl, by decide +kernel, by decide +kernel⟩
abbrev s_l_drawn_word : Stmt := top 24
abbrev nl_l_drawn_word : List Str := ["_law_bag_here", "_law_most", "_law_signs", "_law_k"]
theorem sc_l_drawn_word : FnScope nl_l_drawn_word ["_law_bag_here", "_law_most", "_law_signs"] (defScope s_l_drawn_word) := ⟨rfl, rfl, rfl, by decide +kernel, rfl, by decide +kernel, by decide +kernel⟩
abbrev s_l_opposite : Stmt := top 25
abbrev nl_l_opposite : List Str := ["_law_sign"]
theorem sc_l_opposite : FnScope nl_l_opposite ["_law_sign"] (defScope s_l_opposite) := ⟨rfl, rfl, rfl, by decide +kernel, rfl, by decide +kernel, by decide +kernel⟩
abbrev s_l_inverse : Stmt := top 26
abbrev nl_l_inverse : List Str := ["_law_word", "_law_sign"]
theorem sc_l_inverse : FnScope nl_l_inverse ["_law_word"] (defScope s_l_inverse) := ⟨rfl, rfl, rfl, by decide +kernel, rfl, by decide +kernel, by decide +kernel⟩
abbrev s_l_like : Stmt := top 27
abbrev nl_l_like : List Str := ["_law_found", "_law_due", "_law_pairs", "_law_at"]
theorem sc_l_like : FnScope nl_l_like ["_law_found", "_law_due"] (defScope s_l_like) := ⟨rfl, rfl, rfl, by decide +kernel, rfl, by decide +kernel, by decide +kernel⟩
abbrev s_l_field : Stmt := top 28
abbrev nl_l_field : List Str := ["_law_e"]
theorem sc_l_field : FnScope nl_l_field ["_law_e"] (defScope s_l_field) := ⟨rfl, rfl, rfl, by decide +kernel, rfl, by decide +kernel, by decide +kernel⟩
abbrev s_l_try : Stmt := top 29
abbrev nl_l_try : List Str := ["_law_ask", "_law_e"]
theorem sc_l_try : FnScope nl_l_try ["_law_ask"] (defScope s_l_try) := ⟨rfl, rfl, rfl, by decide +kernel, rfl, by decide +kernel, by decide +kernel⟩
abbrev s_l_limited : Stmt := top 30
abbrev nl_l_limited : List Str := ["_law_word"]
theorem sc_l_limited : FnScope nl_l_limited ["_law_word"] (defScope s_l_limited) := ⟨rfl, rfl, rfl, by decide +kernel, rfl, by decide +kernel, by decide +kernel⟩
abbrev s_l_reduced : Stmt := top 31
abbrev nl_l_reduced : List Str := ["_law_word", "_law_found", "_law_sign"]
theorem sc_l_reduced : FnScope nl_l_reduced ["_law_word"] (defScope s_l_reduced) := ⟨rfl, rfl, rfl, by decide +kernel, rfl, by decide +kernel, by decide +kernel⟩
abbrev s_l_tries : Stmt := top 32
abbrev nl_l_tries : List Str := ["_law_asks", "_law_ask"]
theorem sc_l_tries : FnScope nl_l_tries ["_law_asks"] (defScope s_l_tries) := ⟨rfl, rfl, rfl, by decide +kernel, rfl, by decide +kernel, by decide +kernel⟩
abbrev s_l_limits_so : Stmt := top 33
abbrev nl_l_limits_so : List Str := ["_law_asks", "_law_due"]
theorem sc_l_limits_so : FnScope nl_l_limits_so [] (defScope s_l_limits_so) := ⟨rfl, rfl, rfl, by decide +kernel, rfl, by decide +kernel, by decide +kernel⟩
abbrev s_law : Stmt := top 34
abbrev nl_law : List Str := ["_law_script", "_law_bag_here", "_law_again", "_law_signs", "_law_one", "_law_other", "_law_third", "_law_many", "_law_row", "_law_asks", "_law_rows", "_law_word", "_law_size", "_law_at", "_law_odd", "_law_due"]
theorem sc_law : FnScope nl_law ["_law_script"] (defScope s_law) := ⟨rfl, rfl, rfl, by decide +kernel, rfl, by decide +kernel, by decide +kernel⟩
structure Tx (P : Program) (w : World) (K : PySem.W.Frag) (mg : Str → Option Value) where
  a_check_word : Addr
  d_check_word : FuncData
  F_check_word : Fun K "check_word" "check_word" s_check_word a_check_word d_check_word
  g_check_word : mg "check_word" = some (.ref a_check_word)
  a_opposite_word : Addr
  d_opposite_word : FuncData
  F_opposite_word : Fun K "opposite_word" "opposite_word" s_opposite_word a_opposite_word d_opposite_word
  g_opposite_word : mg "opposite_word" = some (.ref a_opposite_word)
  a_reduced_word : Addr
  d_reduced_word : FuncData
  F_reduced_word : Fun K "reduced_word" "reduced_word" s_reduced_word a_reduced_word d_reduced_word
  g_reduced_word : mg "reduced_word" = some (.ref a_reduced_word)
  a_limited : Addr
  d_limited : FuncData
  F_limited : Fun K "limited" "limited" s_limited a_limited d_limited
  g_limited : mg "limited" = some (.ref a_limited)
  a_cyclic_part : Addr
  d_cyclic_part : FuncData
  F_cyclic_part : Fun K "cyclic_part" "cyclic_part" s_cyclic_part a_cyclic_part d_cyclic_part
  g_cyclic_part : mg "cyclic_part" = some (.ref a_cyclic_part)
  a_power_of : Addr
  d_power_of : FuncData
  F_power_of : Fun K "power_of" "power_of" s_power_of a_power_of d_power_of
  g_power_of : mg "power_of" = some (.ref a_power_of)
  a_power : Addr
  d_power : FuncData
  F_power : Fun K "power" "power" s_power a_power d_power
  g_power : mg "power" = some (.ref a_power)
  a_commutator_of : Addr
  d_commutator_of : FuncData
  F_commutator_of : Fun K "commutator_of" "commutator_of" s_commutator_of a_commutator_of d_commutator_of
  g_commutator_of : mg "commutator_of" = some (.ref a_commutator_of)
  a_commutator : Addr
  d_commutator : FuncData
  F_commutator : Fun K "commutator" "commutator" s_commutator a_commutator d_commutator
  g_commutator : mg "commutator" = some (.ref a_commutator)
  a_joined : Addr
  d_joined : FuncData
  F_joined : Fun K "joined" "joined" s_joined a_joined d_joined
  g_joined : mg "joined" = some (.ref a_joined)
  a_l_bag : Addr
  d_l_bag : FuncData
  F_l_bag : Fun K "_law_bag" "_law_bag" s_l_bag a_l_bag d_l_bag
  g_l_bag : mg "_law_bag" = some (.ref a_l_bag)
  a_l_draw : Addr
  d_l_draw : FuncData
  F_l_draw : Fun K "_law_draw" "_law_draw" s_l_draw a_l_draw d_l_draw
  g_l_draw : mg "_law_draw" = some (.ref a_l_draw)
  a_l_any : Addr
  d_l_any : FuncData
  F_l_any : Fun K "_law_any" "_law_any" s_l_any a_l_any d_l_any
  g_l_any : mg "_law_any" = some (.ref a_l_any)
  a_l_drawn_word : Addr
  d_l_drawn_word : FuncData
  F_l_drawn_word : Fun K "_law_drawn_word" "_law_drawn_word" s_l_drawn_word a_l_drawn_word d_l_drawn_word
  g_l_drawn_word : mg "_law_drawn_word" = some (.ref a_l_drawn_word)
  a_l_opposite : Addr
  d_l_opposite : FuncData
  F_l_opposite : Fun K "_law_opposite" "_law_opposite" s_l_opposite a_l_opposite d_l_opposite
  g_l_opposite : mg "_law_opposite" = some (.ref a_l_opposite)
  a_l_inverse : Addr
  d_l_inverse : FuncData
  F_l_inverse : Fun K "_law_inverse" "_law_inverse" s_l_inverse a_l_inverse d_l_inverse
  g_l_inverse : mg "_law_inverse" = some (.ref a_l_inverse)
  a_l_like : Addr
  d_l_like : FuncData
  F_l_like : Fun K "_law_like" "_law_like" s_l_like a_l_like d_l_like
  g_l_like : mg "_law_like" = some (.ref a_l_like)
  a_l_field : Addr
  d_l_field : FuncData
  F_l_field : Fun K "_law_field" "_law_field" s_l_field a_l_field d_l_field
  g_l_field : mg "_law_field" = some (.ref a_l_field)
  a_l_try : Addr
  d_l_try : FuncData
  F_l_try : Fun K "_law_try" "_law_try" s_l_try a_l_try d_l_try
  g_l_try : mg "_law_try" = some (.ref a_l_try)
  a_l_limited : Addr
  d_l_limited : FuncData
  F_l_limited : Fun K "_law_limited" "_law_limited" s_l_limited a_l_limited d_l_limited
  g_l_limited : mg "_law_limited" = some (.ref a_l_limited)
  a_l_reduced : Addr
  d_l_reduced : FuncData
  F_l_reduced : Fun K "_law_reduced" "_law_reduced" s_l_reduced a_l_reduced d_l_reduced
  g_l_reduced : mg "_law_reduced" = some (.ref a_l_reduced)
  a_l_tries : Addr
  d_l_tries : FuncData
  F_l_tries : Fun K "_law_tries" "_law_tries" s_l_tries a_l_tries d_l_tries
  g_l_tries : mg "_law_tries" = some (.ref a_l_tries)
  a_l_limits_so : Addr
  d_l_limits_so : FuncData
  e_l_limits_so : Addr
  p_l_limits_so : Addr
  F_l_limits_so : FunT K "_law_limits_so" "_law_limits_so" s_l_limits_so a_l_limits_so d_l_limits_so e_l_limits_so
  g_l_limits_so : mg "_law_limits_so" = some (.ref a_l_limits_so)
  a_law : Addr
  d_law : FuncData
  e_law : Addr
  p_law : Addr
  F_law : FunT K "law" "law" s_law a_law d_law e_law
  g_law : mg "law" = some (.ref a_law)
  g_LETTERS : ∃ t, mg "LETTERS" = some (.str "abcdABCD" t)
  g_MAX_WORD : ∃ t, mg "MAX_WORD" = some (.int 60 t)
  a_OPPOSITES : Addr
  g_OPPOSITES : mg "OPPOSITES" = some (.ref a_OPPOSITES)
  k_OPPOSITES : KDct K w a_OPPOSITES "a" (V.str "A") ∧ KDct K w a_OPPOSITES "b" (V.str "B") ∧ KDct K w a_OPPOSITES "c" (V.str "C") ∧ KDct K w a_OPPOSITES "d" (V.str "D") ∧ KDct K w a_OPPOSITES "A" (V.str "a") ∧ KDct K w a_OPPOSITES "B" (V.str "b") ∧ KDct K w a_OPPOSITES "C" (V.str "c") ∧ KDct K w a_OPPOSITES "D" (V.str "d")
  b_HemError : Addr
  h_HemError : mg "HemError" = some (.ref b_HemError)
  b_InvalidWord : Addr
  h_InvalidWord : mg "InvalidWord" = some (.ref b_InvalidWord)
  b_NothingLeft : Addr
  h_NothingLeft : mg "NothingLeft" = some (.ref b_NothingLeft)
  b_TooLong : Addr
  h_TooLong : mg "TooLong" = some (.ref b_TooLong)
  b_UnknownName : Addr
  h_UnknownName : mg "UnknownName" = some (.ref b_UnknownName)
  x_InvalidWord : ErrC P K mg b_InvalidWord "InvalidWord" "position"
  y_InvalidWord : XcM K mg b_InvalidWord "InvalidWord" "position"
  x_TooLong : ErrC P K mg b_TooLong "TooLong" "limit"
  y_TooLong : XcM K mg b_TooLong "TooLong" "limit"
  z_abs : mg "abs" = none
  z_all : mg "all" = none
  z_bool : mg "bool" = none
  z_dict : mg "dict" = none
  z_enumerate : mg "enumerate" = none
  z_int : mg "int" = none
  z_isinstance : mg "isinstance" = none
  z_len : mg "len" = none
  z_list : mg "list" = none
  z_range : mg "range" = none
  z_str : mg "str" = none
  z_tuple : mg "tuple" = none
section
variable {P : Program} {w : World} {K : PySem.W.Frag} {mg : Str → Option Value} {base : Heap} (T : Tx P w K mg) [TabNm]
theorem ok_check_word : FnOk P w K mg base (L2N.CX P w) 3 T.a_check_word T.d_check_word ["word"] (sp_word K mg (fun _ => .non)) := by
  refine okE T.F_check_word sc_check_word (fun vs H Q E h => ?_) (fun cdv A outer s H vs Q E hr h => ?_)
  · obtain ⟨l, rfl, _⟩ := h
    rfl
  · obtain ⟨l, rfl, hl, qb, qt, q⟩ := h
    refine ⟨_, (pss_cons (ps_for (passes_of rfl) rfl (pi_enumS (by rfl) T.z_enumerate (pa_cons (pv 0) pa_nil)) (pg_tup (n := 2) rfl (pgs_cons (pg_name (i := 1) sc_check_word.nd rfl (Or.inl rfl)) (pgs_cons (pg_name (i := 2) sc_check_word.nd rfl (Or.inl rfl)) pgs_nil))) (pss_one (ps_if (pt_cmpR op_notIn_sign (pv 2) (pe_gstr (by rfl) T.g_LETTERS) (by rfl)) (pss_one (L2N.ps_raise rfl (L2N.takes_of rfl rfl rfl rfl) (pmk_err T.x_InvalidWord (hr.mono (by decide)) T.h_InvalidWord (pa_cons (pv 1) pa_nil)))) pss_nil)))
      (pss_one (ps_if (pt_cmpR op_gt (pe_callB call_len_str (by rfl) T.z_len (by decide +kernel) (pa_cons (pv 0) pa_nil)) (pe_gint (by rfl) T.g_MAX_WORD) (nomark _)) (pss_one (L2N.ps_raise rfl (L2N.takes_of rfl rfl rfl rfl) (pmk_err T.x_TooLong (hr.mono (by decide)) T.h_TooLong (pa_cons (pe_gint (by rfl) T.g_MAX_WORD) pa_nil)))) pss_nil))), ?_⟩
    wtm_at "e"
    refine w_forE (fun i σ' H' => (∃ v1 v2, σ' = [some (.str (Sl l)), v1, v2]) ∧ Same H H' ∧ ∀ j c, j < i → l[j]? = some c → isL c = true) ⟨⟨_, _, rfl⟩, fun _ _ e => e, fun j c hj => absurd hj (Nat.not_lt_zero _)⟩ ?_ ?_
    · rintro i c σ' H1 hc ⟨⟨v1, v2, rfl⟩, s1, hg⟩ M hM r hr
      have hc : l[i]? = some c := by simpa using hc
      wtm_at "e"
      refine ⟨_, SqT.of upd_same, rfl, ?_⟩
      wtm_at "e"
      have s2 := s1.trans (sameNew (o := .tup [V.int (i : Nat), V.str ⟨#[c]⟩]) hr)
      refine ite2 (fun hb => ?_) (fun hb => ?_)
      · have hb : isL c = false := by
          rw [memL] at hb
          simpa using hb
        intro d hd
        exact qb i (bad_at hc hb hg) _ s2 _ d T.y_InvalidWord hd
      · have hb : isL c = true := by
          rw [memL] at hb
          simpa using hb
        refine hM _ _ ⟨⟨_, _, rfl⟩, s2, fun j c2 hj h2 => ?_⟩
        by_cases e : j = i
        · subst e
          rw [hc] at h2
          cases h2
          exact hb
        · exact hg j c2 (by omega) h2
    · rintro σ' H1 ⟨⟨v1, v2, rfl⟩, s1, hg⟩
      have hb := bad_no (l := l) (by simpa using hg)
      wtm_at "k"
      refine ⟨by rw [sizeLine_eq]; omega, ite2 (fun h6 => fun d hd => ?_) (fun h6 => ?_)⟩
      · exact qt hb (by omega) _ s1 _ d T.y_TooLong hd
      · exact q hb (by omega) _ s1
theorem c_check_word : Cal P w K mg base (L2N.CX P w) 3 "check_word" T.a_check_word T.d_check_word ["word"] (sp_word K mg (fun _ => .non)) := ⟨ok_check_word T, T.g_check_word, T.F_check_word.kp, T.F_check_word.binds fun _ _ _ _ _ _ us hl => match us, hl with | [_], _ => rfl⟩
def sp_opposite_word : Sp := fun vs H Q E => ∃ l : List Nat, vs = [.str (Sl l)] ∧ l.length ≤ 100000 ∧ AL l ∧ ∀ H', Same H H' → Q (.str (Sl (inv l))) H'
theorem ok_opposite_word : FnOk P w K mg base CX0 1 T.a_opposite_word T.d_opposite_word ["word"] sp_opposite_word := by
  refine T.F_opposite_word.ok sc_opposite_word (fun vs H Q E h => ?_) (fun cdv A outer s H vs Q E hr h => ?_)
  · obtain ⟨l, rfl, _⟩ := h
    rfl
  · obtain ⟨l, rfl, hl, al, q⟩ := h
    refine ⟨_, (pss_one (ps_ret (pe_join (pe_str) (pe_lc (own := [("letter", 1)]) (g := gName 1) (tt := tYes) rfl sc_opposite_word.nd (pi_str (pe_revS (pv 0))) (blkOk_by (own := [("letter", 1)]) (N := nl_opposite_word) (sc := defScope s_opposite_word) (by decide +kernel)) (fun _ _ _ _ _ => (pg_name (i := 1) sc_opposite_word.nd rfl (Or.inl rfl))) (fun _ _ _ _ _ => pts_nil) (fun _ _ _ _ _ => (pe_ix (r := rIxD K w) ix_kdict (pe_gref (by rfl) T.g_OPPOSITES) (pv 1) (fun _ _ => rfl))))))), ?_⟩
    wtm_at "el"
    refine ⟨szle hl, fun D hD => w_lcPS (f := fun c => .str (Sl [opN c])) hD (by rw [List.length_reverse]; exact hl) (fun _ => rfl) (fun c hc H1 Q1 s1 h1 => ?_) fun H1 s1 e1 => ?_⟩
    · refine ⟨_, rfl, w_opp T.k_OPPOSITES (al c (List.mem_reverse.mp hc)) (h1 _ fun _ _ e => e)⟩
    · refine ⟨D, rfl, ((inv l).map fun c => [c]).map Sl, .inl (SqL.of ?_), ?_, ?_⟩
      · rw [e1]
        unfold inv
        simp only [List.map_map]
        rfl
      · rw [lens1, inv_len]
        omega
      · rw [join01]
        exact q _ s1
theorem c_opposite_word : Cal P w K mg base CX0 1 "opposite_word" T.a_opposite_word T.d_opposite_word ["word"] sp_opposite_word := ⟨ok_opposite_word T, T.g_opposite_word, T.F_opposite_word.kp, T.F_opposite_word.binds fun _ _ _ _ _ _ us hl => match us, hl with | [_], _ => rfl⟩
def sp_reduced_word : Sp := fun vs H Q E => ∃ l : List Nat, vs = [.str (Sl l)] ∧ l.length ≤ 100000 ∧ AL l ∧ ∀ H', Same H H' → Q (.str (Sl (red l))) H'
theorem ok_reduced_word : FnOk P w K mg base CX0 1 T.a_reduced_word T.d_reduced_word ["word"] sp_reduced_word := by
  refine T.F_reduced_word.ok sc_reduced_word (fun vs H Q E h => ?_) (fun cdv A outer s H vs Q E hr h => ?_)
  · obtain ⟨l, rfl, _⟩ := h
    rfl
  · obtain ⟨l, rfl, hl, al, q⟩ := h
    refine ⟨_, (pss_cons (ps_set (i := 1) sc_reduced_word.nd rfl (Or.inl rfl) (pe_lst pa_nil))
      (pss_cons (ps_for PassesOwn.never rfl (pi_str (pv 0)) (pg_name (i := 2) sc_reduced_word.nd rfl (Or.inl rfl)) (pss_one (ps_if (PW.pt (pw_and (pt_cmpR op_gt (pe_callB (r := rLenQ K) call_len_seq (by rfl) T.z_len (by decide +kernel) (pa_cons (pv 1) pa_nil)) (pe_int) (nomark _)) (pw_and1 (pt_cmpR op_eq (pe_ix (r := rIxL K) ix_list (pv 1) (pe_un un_neg (pe_int)) (fun _ _ => rfl)) (pe_ix (r := rIxD K w) ix_kdict (pe_gref (by rfl) T.g_OPPOSITES) (pv 2) (fun _ _ => rfl)) (nomark _))))) (pss_one (ps_expr (pe_bm0 PySem.F.plainAttrs_list PySem.F.slot_list_pop PySem.F.type_list_pop mt_pop (pv 1)))) (pss_one (ps_expr (pe_bm PySem.F.plainAttrs_list PySem.F.slot_list_append PySem.F.type_list_append mt_append (pv 1) (pa_cons (pv 2) pa_nil)))))))
      (pss_one (ps_ret (pe_join (pe_str) (pv 1)))))), ?_⟩
    wtm_at "el"
    refine w_lstR (by simp) fun p hp => ?_
    wtm_at "kl"
    refine w_forS (fun i σ' H' => (∃ v, σ' = [some (.str (Sl l)), some (.ref p), v]) ∧ Same H H' ∧ H' p = some (.lst ((red (l.take i)).map fun c => .str (Sl [c])))) ⟨⟨_, rfl⟩, sameNew hp, upd_same⟩ ?_ ?_
    · rintro i c σ' H1 hc ⟨⟨v, rfl⟩, s1, hx⟩ M hM
      have hc : l[i]? = some c := hc
      have ic := al c (List.mem_of_getElem? hc)
      have il := (List.getElem?_eq_some_iff.mp hc).1
      have hrl := red_len (l.take i)
      rw [List.length_take] at hrl
      have su : ∀ ys, Same H (upd H1 p (.lst ys)) := fun ys b u e => by rw [upd_ne (ne_of_none e hp)]; exact s1 _ _ e
      have go : (∀ t, red (l.take i) ≠ t ++ [opN c]) → M [some (.str (Sl l)), some (.ref p), some (.str (Sl [c]))] (upd H1 p (.lst ((red (l.take i)).map (fun c => V.str (Sl [c])) ++ [.str (Sl [c])]))) := fun h => by
        refine hM _ _ ⟨⟨_, rfl⟩, su _, ?_⟩
        rw [upd_same, take_snoc hc, red_put h, List.map_append]
        rfl
      wtm_at "el"
      refine ⟨_, .inl (SqL.of hx), ?_⟩
      rw [List.length_map]
      rcases snocCases (red (l.take i)) with e | ⟨t, d, e⟩
      · rw [e] at hx
        rw [if_neg (by rw [e]; decide)]
        refine ⟨.inl ⟨rfl, _, SqL.of hx⟩, _, hx, by show 0 < _; rw [sizeLine_eq]; decide, ?_⟩
        have z := go (fun t z => by rw [e] at z; simp at z)
        rw [e] at z
        exact z
      · have hpos : (0 : Int) < ((red (l.take i)).length : Nat) := by rw [e, List.length_append]; simp
        rw [if_pos hpos]
        rw [e, List.map_append] at hx
        refine ⟨_, SqL.of hx, _, atI_last _ _, _, opp_at T.k_OPPOSITES ic, ?_⟩
        wtm_at "el"
        refine ite2 (fun h1 => ?_) (fun h1 => ?_)
        · have h1 : d = opN c := by simpa using h1
          subst h1
          refine ⟨.inl ⟨rfl, _, SqL.of hx⟩, ?_⟩
          refine ⟨_, hx, .str (Sl [opN c]), ?_, hM _ _ ⟨⟨_, rfl⟩, su _, ?_⟩⟩
          · simp
          · rw [upd_same, take_snoc hc, red_pop e]
            simp
        · have h1 : d ≠ opN c := by simpa using h1
          have z := go (fun t' z => by
            rw [e] at z
            have := (List.append_inj' z rfl).2
            simp at this
            exact h1 this)
          rw [e, List.map_append] at z
          refine ⟨.inl ⟨rfl, _, SqL.of hx⟩, _, hx, ?_, z⟩
          have : (t ++ [d]).length ≤ 100000 := by rw [← e]; omega
          rw [sizeLine_eq]
          simp at this ⊢
          omega
    · rintro σ' H1 ⟨⟨v, rfl⟩, s1, hx⟩
      rw [sl_tl, List.take_length] at hx
      wtm_at "kl"
      have hrl := red_len l
      refine ⟨((red l).map fun c => [c]).map Sl, .inl (SqL.of ?_), ?_, ?_⟩
      · rw [hx]
        simp only [List.map_map]
        rfl
      · rw [lens1]
        omega
      · rw [join01]
        exact q _ s1
theorem c_reduced_word : Cal P w K mg base CX0 1 "reduced_word" T.a_reduced_word T.d_reduced_word ["word"] sp_reduced_word := ⟨ok_reduced_word T, T.g_reduced_word, T.F_reduced_word.kp, T.F_reduced_word.binds fun _ _ _ _ _ _ us hl => match us, hl with | [_], _ => rfl⟩
theorem ok_limited : FnOk P w K mg base (L2N.CX P w) 3 T.a_limited T.d_limited ["word"] (spO K mg (fun vs o => ∃ l : List Nat, vs = [.str (Sl l)] ∧ l.length ≤ 100000 ∧ o = limO l)) := by
  refine okE T.F_limited sc_limited (fun vs H Q E h => ?_) (fun cdv A outer s H vs Q E hr h => ?_)
  · obtain ⟨o, ⟨l, rfl, _⟩, _⟩ := h
    rfl
  · obtain ⟨o, ⟨l, rfl, hl, rfl⟩, q, qe⟩ := h
    refine ⟨_, (pss_cons (ps_if (pt_cmpR op_gt (pe_callB call_len_str (by rfl) T.z_len (by decide +kernel) (pa_cons (pv 0) pa_nil)) (pe_gint (by rfl) T.g_MAX_WORD) (nomark _)) (pss_one (L2N.ps_raise rfl (L2N.takes_of rfl rfl rfl rfl) (pmk_err T.x_TooLong (hr.mono (by decide)) T.h_TooLong (pa_cons (pe_gint (by rfl) T.g_MAX_WORD) pa_nil)))) pss_nil)
      (pss_one (ps_ret (pv 0)))), ?_⟩
    wtm_at "el"
    refine ⟨szle hl, ite2 (fun h6 => ?_) (fun h6 => ?_)⟩
    · intro d hd
      exact qe _ _ (limO_long (by omega)) H (fun _ _ e => e) "limit" (by decide +kernel) _ d T.y_TooLong hd
    · wtm_at "kl"
      exact q _ (limO_ok (by omega)) H fun _ _ e => e
theorem c_limited : Cal P w K mg base (L2N.CX P w) 3 "limited" T.a_limited T.d_limited ["word"] (spO K mg (fun vs o => ∃ l : List Nat, vs = [.str (Sl l)] ∧ l.length ≤ 100000 ∧ o = limO l)) := ⟨ok_limited T, T.g_limited, T.F_limited.kp, T.F_limited.binds fun _ _ _ _ _ _ us hl => match us, hl with | [_], _ => rfl⟩
def sp_cyclic_part : Sp := fun vs H Q E => ∃ l : List Nat, vs = [.str (Sl l)] ∧ l.length ≤ 100000 ∧ AL l ∧ Q (.str (Sl (cyc l))) H
theorem ok_cyclic_part : FnOk P w K mg base CX0 1 T.a_cyclic_part T.d_cyclic_part ["word"] sp_cyclic_part := by
  refine T.F_cyclic_part.ok sc_cyclic_part (fun vs H Q E h => ?_) (fun cdv A outer s H vs Q E hr h => ?_)
  · obtain ⟨l, rfl, _⟩ := h
    rfl
  · obtain ⟨l, rfl, hl, al, q⟩ := h
    refine ⟨_, (pss_cons (ps_par (i := 1) (j := 2) (by rfl) sc_cyclic_part.nd rfl rfl (by decide) rfl rfl (pa_cons (pe_int) (pa_cons (pe_callB call_len_str (by rfl) T.z_len (by decide +kernel) (pa_cons (pv 0) pa_nil)) pa_nil)) (by rfl))
      (pss_cons (ps_while PassesOwn.never (PW.pt (pw_and (pt_cmpR op_gt (pe_op op_sub (pv 2) (pv 1)) (pe_int) (nomark _)) (pw_and1 (pt_cmpR op_eq (pe_ix (r := rIxS) ix_str (pv 0) (pv 1) (fun _ _ => rfl)) (pe_ix (r := rIxD K w) ix_kdict (pe_gref (by rfl) T.g_OPPOSITES) (pe_ix (r := rIxS) ix_str (pv 0) (pe_op op_sub (pv 2) (pe_int)) (fun _ _ => rfl)) (fun _ _ => rfl)) (nomark _))))) (pss_one (ps_par (i := 1) (j := 2) (by rfl) sc_cyclic_part.nd rfl rfl (by decide) rfl rfl (pa_cons (pe_op op_add (pv 1) (pe_int)) (pa_cons (pe_op op_sub (pv 2) (pe_int)) pa_nil)) (by rfl))))
      (pss_one (ps_ret (pe_slice (r := rSlS) sl_str (pv 0) (po_some (pv 1)) (po_some (pv 2))))))), ?_⟩
    wtm_at "el"
    refine ⟨szle hl, ?_⟩
    wtm_at "kl"
    refine w_while (fun m σ' H' => H' = H ∧ ∃ a e : Nat, σ' = [some (.str (Sl l)), some (.int (a : Nat)), some (.int (e : Nat))] ∧ m = e - a ∧ a ≤ e ∧ e ≤ l.length ∧ cyc l = cyc (seg l a e)) l.length ⟨rfl, 0, l.length, rfl, by omega, by omega, Nat.le_refl _, by rw [seg_all]⟩ ?_
    rintro m σ' H1 ⟨rfl, a, e, rfl, rfl, hae, hel, hc⟩
    wtm_at "el"
    by_cases h : a + 1 < e
    · rw [if_pos (by omega)]
      obtain ⟨x, hx⟩ : ∃ x, l[a]? = some x := ⟨_, List.getElem?_eq_getElem (by omega)⟩
      obtain ⟨y, hy⟩ : ∃ y, l[e - 1]? = some y := ⟨_, List.getElem?_eq_getElem (by omega)⟩
      have e1 : (e : Int) - 1 = ((e - 1 : Nat) : Int) := by omega
      have iy := al y (List.mem_of_getElem? hy)
      rw [e1]
      refine ⟨szle hl, x, atI_nat hx, szle hl, y, atI_nat hy, _, opp_at T.k_OPPOSITES iy, ?_⟩
      wtm_at "el"
      refine ite2 (fun h1 => ?_) (fun h1 => ?_)
      · have h1 : x = opN y := by simpa using h1
        refine w_wb fun N hN => ?_
        wtm_at "el"
        refine hN (e - 1 - (a + 1)) _ _ (by omega) ⟨rfl, a + 1, e - 1, ?_, rfl, by omega, by omega, ?_⟩
        · rw [e1]
          rfl
        · rw [hc, cyc_seg_yes h hel hx hy h1]
      · have h1 : x ≠ opN y := by simpa using h1
        wtm_at "kl"
        rw [hc, cyc_seg_no h hel hx hy h1] at q
        exact ⟨szle hl, q⟩
    · rw [if_neg (by omega)]
      wtm_at "kl"
      rw [hc, cyc_seg_short (by omega)] at q
      exact ⟨szle hl, q⟩
theorem c_cyclic_part : Cal P w K mg base CX0 1 "cyclic_part" T.a_cyclic_part T.d_cyclic_part ["word"] sp_cyclic_part := ⟨ok_cyclic_part T, T.g_cyclic_part, T.F_cyclic_part.kp, T.F_cyclic_part.binds fun _ _ _ _ _ _ us hl => match us, hl with | [_], _ => rfl⟩
theorem ok_power_of : FnOk P w K mg base (L2N.CX P w) 3 T.a_power_of T.d_power_of ["word", "exponent"] (spO K mg (fun vs o => ∃ (l : List Nat) (n : Int), vs = [.str (Sl l), .int n] ∧ l.length ≤ 60 ∧ AL l ∧ n.natAbs < 2 ^ 64 ∧ o = powO l n)) := by
  refine okE T.F_power_of sc_power_of (fun vs H Q E h => ?_) (fun cdv A outer s H vs Q E hr h => ?_)
  · obtain ⟨o, ⟨l, n, rfl, _⟩, _⟩ := h
    rfl
  · obtain ⟨o, ⟨l, n, rfl, hl, al, hn, rfl⟩, q, qe⟩ := h
    refine ⟨_, (Evl.pss_cut (ps_set (i := 2) sc_power_of.nd rfl (Or.inl rfl) (pe_cal (c_reduced_word T) (hr.mono (by decide)) (pa_cons (pe_ifExp (pt_cmpR op_ge (pv 1) (pe_int) (nomark _)) (pv 0) (pe_cal (c_opposite_word T) (hr.mono (by decide)) (pa_cons (pv 0) pa_nil))) pa_nil)))
      (pss_cons (ps_set (i := 3) sc_power_of.nd rfl (Or.inl rfl) (pe_cal (c_cyclic_part T) (hr.mono (by decide)) (pa_cons (pv 2) pa_nil)))
      (pss_cons (ps_if (PW.pt (pw_or (pt_cmpR op_eq (pv 3) (pe_str) (nomark _)) (pw_or1 (pt_cmpR op_eq (pv 1) (pe_int) (nomark _))))) (pss_one (ps_ret (pe_str))) pss_nil)
      (pss_cons (ps_set (i := 4) sc_power_of.nd rfl (Or.inl rfl) (pe_op op_sub (pe_callB call_len_str (by rfl) T.z_len (by decide +kernel) (pa_cons (pv 2) pa_nil)) (pe_callB call_len_str (by rfl) T.z_len (by decide +kernel) (pa_cons (pv 3) pa_nil))))
      (pss_cons (ps_if (pt_cmpR op_gt (pe_op op_add (pv 4) (pe_op op_mulW (pe_callB call_len_str (by rfl) T.z_len (by decide +kernel) (pa_cons (pv 3) pa_nil)) (pe_callB call_abs (by rfl) T.z_abs (by decide +kernel) (pa_cons (pv 1) pa_nil)))) (pe_gint (by rfl) T.g_MAX_WORD) (nomark _)) (pss_one (L2N.ps_raise rfl (L2N.takes_of rfl rfl rfl rfl) (pmk_err T.x_TooLong (hr.mono (by decide)) T.h_TooLong (pa_cons (pe_gint (by rfl) T.g_MAX_WORD) pa_nil)))) pss_nil)
      (pss_cons (ps_set (i := 5) sc_power_of.nd rfl (Or.inl rfl) (pe_op op_fdivW (pv 4) (pe_int)))
      (pss_one (ps_ret (pe_op op_add_str (pe_op op_add_str (pe_slice (r := rSlS) sl_str (pv 2) po_none (po_some (pv 5))) (pe_op op_mulSl (pv 3) (pe_callB call_abs (by rfl) T.z_abs (by decide +kernel) (pa_cons (pv 1) pa_nil)))) (pe_slice (r := rSlS) sl_str (pv 2) (po_some (pe_op op_add (pv 5) (pe_callB call_len_str (by rfl) T.z_len (by decide +kernel) (pa_cons (pv 3) pa_nil)))) po_none)))))))))), ?_⟩
    have hx : ∃ x0, x0 = (if 0 ≤ n then l else inv l) := ⟨_, rfl⟩
    obtain ⟨x0, ex⟩ := hx
    have hx0 : x0.length ≤ 60 := by rw [ex]; split <;> (try rw [inv_len]) <;> exact hl
    have alx : AL x0 := by rw [ex]; split <;> (first | exact al | exact al.inv)
    have ep : powO l n = limO (red (repL n.natAbs x0)) := by unfold powO powW; rw [ex]
    rw [ep] at q qe
    refine w_cut (fun σ' H' => σ' = [some (.str (Sl l)), some (.int n), some (.str (Sl (red x0))), none, none, none] ∧ Same H H') (fun M hM => ?_) ?_
    · wtm_at "el"
      refine ite2 (fun h0 => ?_) (fun h0 => ?_)
      · rw [if_pos h0] at ex
        subst ex
        exact ⟨_, rfl, by omega, al, fun H1 s1 => hM _ _ ⟨rfl, s1⟩⟩
      · rw [if_neg h0] at ex
        subst ex
        exact ⟨_, rfl, by omega, al, fun H1 s1 => ⟨_, rfl, by omega, alx, fun H2 s2 => hM _ _ ⟨rfl, s1.trans s2⟩⟩⟩
    · rintro σ' H1 ⟨rfl, s1⟩
      have hrl := red_len x0
      have hcl := cyc_len (red x0)
      wtm_at "el"
      refine ⟨_, rfl, by omega, alx.red, ?_⟩
      wtm_at "kl"
      by_cases hc : cyc (red x0) = []
      · rw [if_pos hc]
        exact q _ (by rw [power_nil _ hc]; rfl) _ s1
      · rw [if_neg hc]
        by_cases hn0 : n = 0
        · rw [if_pos hn0]
          exact q _ (by rw [hn0]; rfl) _ s1
        · rw [if_neg hn0]
          obtain ⟨k, hk⟩ : ∃ k, n.natAbs = k + 1 := ⟨n.natAbs - 1, by omega⟩
          have hpc := power_core alx k hc _ rfl
          have hlen : (red (repL (k + 1) x0)).length = ((red x0).length - (cyc (red x0)).length) + (cyc (red x0)).length * (k + 1) := by
            rw [hpc, List.length_append, List.length_append, List.length_take, List.length_drop, repL_len, Nat.mul_comm]
            omega
          rw [hk] at q qe
          wtm_at "kl"
          refine ⟨szle (by omega), szle (by omega), ?_⟩
          wtm_at "kl"
          rw [absI, hk]
          refine ⟨szle (by omega), wide_mul (a := 64) (b := 64) (by omega) (by omega) (by decide) (by decide) (by decide), ?_⟩
          have e1 : ((red x0).length : Int) - ((cyc (red x0)).length : Nat) + ((cyc (red x0)).length : Nat) * ((k + 1 : Nat) : Int) = ((red (repL (k + 1) x0)).length : Nat) := by
            rw [hlen, Int.natCast_add ((red x0).length - (cyc (red x0)).length), Int.natCast_mul (cyc (red x0)).length (k + 1)]
            omega
          rw [e1]
          refine ite2 (fun h6 => ?_) (fun h6 => ?_)
          · intro d hd
            exact qe _ _ (limO_long (by omega)) _ s1 "limit" (by decide +kernel) _ d T.y_TooLong hd
          · have e2 : (((red x0).length : Int) - ((cyc (red x0)).length : Nat)) / 2 = (((red x0).length - (cyc (red x0)).length) / 2 : Nat) := by omega
            wtm_at "kl"
            refine ⟨⟨by decide, by decide⟩, ?_⟩
            rw [e2]
            wtm_at "kl"
            rw [absI, hk]
            wtm_at "el"
            have h60 : (red (repL (k + 1) x0)).length ≤ 60 := by omega
            have hcp : 0 < (cyc (red x0)).length := List.length_pos_iff.mpr hc
            have hk60 : k + 1 ≤ (cyc (red x0)).length * (k + 1) := Nat.le_mul_of_pos_left _ hcp
            have e3 : ((((red x0).length - (cyc (red x0)).length) / 2 : Nat) : Int) + ((cyc (red x0)).length : Nat) = ((((red x0).length - (cyc (red x0)).length) / 2 + (cyc (red x0)).length : Nat) : Int) := by omega
            have hl3 := congrArg List.length hpc
            rw [List.length_append, List.length_append] at hl3
            rw [e3, cutL_from]
            refine ⟨szle (by omega), (natR (by omega)).1, (natR (by omega)).2, by omega, szle (by omega), szle (by omega), szle (by omega), szle (by rw [List.length_append]; omega), ?_⟩
            rw [← hpc]
            exact q _ (limO_ok h60) _ s1
theorem c_power_of : Cal P w K mg base (L2N.CX P w) 3 "power_of" T.a_power_of T.d_power_of ["word", "exponent"] (spO K mg (fun vs o => ∃ (l : List Nat) (n : Int), vs = [.str (Sl l), .int n] ∧ l.length ≤ 60 ∧ AL l ∧ n.natAbs < 2 ^ 64 ∧ o = powO l n)) := ⟨ok_power_of T, T.g_power_of, T.F_power_of.kp, T.F_power_of.binds fun _ _ _ _ _ _ us hl => match us, hl with | [_, _], _ => rfl⟩
theorem ok_power : FnOk P w K mg base (L2N.CX P w) 4 T.a_power T.d_power ["word", "exponent"] (spO K mg (fun vs o => ∃ (l : List Nat) (n : Int), vs = [.str (Sl l), .int n] ∧ l.length ≤ 100000 ∧ n.natAbs < 2 ^ 64 ∧ o = askO [l] (powO l n))) := by
  refine okE T.F_power sc_power (fun vs H Q E h => ?_) (fun cdv A outer s H vs Q E hr h => ?_)
  · obtain ⟨o, ⟨l, n, rfl, _⟩, _⟩ := h
    rfl
  · obtain ⟨o, ⟨l, n, rfl, hl, hn, rfl⟩, q, qe⟩ := h
    refine ⟨_, (pss_cons (ps_expr (pe_calS (c_check_word T) (L2N.takes_of rfl rfl rfl rfl) (hr.mono (by decide)) (pa_cons (pv 0) pa_nil)))
      (pss_one (ps_ret (pe_calS (c_power_of T) (L2N.takes_of rfl rfl rfl rfl) (hr.mono (by decide)) (pa_cons (pv 0) (pa_cons (pv 1) pa_nil)))))), ?_⟩
    wtm_at "el"
    refine w_check hl (fun m z e H' s fl hf => qe _ _ (askO_err e) H' s fl hf) fun e H' s => ?_
    obtain ⟨al, h6⟩ := wErr_none e
    wtm_at "kl"
    rw [askO_ok e, askO_nil] at q qe
    exact ⟨_, ⟨l, n, rfl, h6, al, hn, rfl⟩, fun l' e' H2 s2 => q l' e' H2 (s.trans s2), fun m z e' H2 s2 fl hf => qe m z e' H2 (s.trans s2) fl hf⟩
def gck_power_1_exponent : {α : Type} → List α → List α → List α := fun {α : Type} (vs zs : List α) => match vs, zs with | [a0], [c0] => [a0, c0] | _, _ => []
theorem rck_power_1_exponent {vs zs : List V} {us ws : List Value} (h1 : Vals vs us) (h3 : Vals zs ws) : Vals (gck_power_1_exponent vs zs) (gck_power_1_exponent us ws) := by
  unfold gck_power_1_exponent
  rcases h1 with _ | ⟨_, h1⟩ <;> (try rcases h1 with _ | ⟨_, h1⟩) <;> (try rcases h1 with _ | ⟨_, h1⟩) <;> rcases h3 with _ | ⟨_, h3⟩ <;> (try rcases h3 with _ | ⟨_, h3⟩) <;> repeat (first | exact Paired.nil | assumption | refine Paired.cons ?_ ?_)
theorem ck_power_1_exponent : CalKS P w K mg base 4 "power" T.a_power T.d_power ["word", "exponent"] (spO K mg (fun vs o => ∃ (l : List Nat) (n : Int), vs = [.str (Sl l), .int n] ∧ l.length ≤ 100000 ∧ n.natAbs < 2 ^ 64 ∧ o = askO [l] (powO l n))) 1 ["exponent"] (fun vs zs => gck_power_1_exponent vs zs) := ⟨ok_power T, T.g_power, T.F_power.kp, Fun.kbn T.F_power 1 ["exponent"] gck_power_1_exponent rck_power_1_exponent fun _ _ _ _ _ _ us ws h1 h3 => match us, ws, h1, h3 with | [_], [_], _, _ => rfl⟩
theorem c_power : Cal P w K mg base (L2N.CX P w) 4 "power" T.a_power T.d_power ["word", "exponent"] (spO K mg (fun vs o => ∃ (l : List Nat) (n : Int), vs = [.str (Sl l), .int n] ∧ l.length ≤ 100000 ∧ n.natAbs < 2 ^ 64 ∧ o = askO [l] (powO l n))) := ⟨ok_power T, T.g_power, T.F_power.kp, T.F_power.binds fun _ _ _ _ _ _ us hl => match us, hl with | [_, _], _ => rfl⟩
theorem ok_commutator_of : FnOk P w K mg base (L2N.CX P w) 4 T.a_commutator_of T.d_commutator_of ["one", "other"] (spO K mg (fun vs o => ∃ (a b : List Nat), vs = [.str (Sl a), .str (Sl b)] ∧ a.length ≤ 60 ∧ b.length ≤ 60 ∧ AL a ∧ AL b ∧ o = limO (red (commW a b)))) := by
  refine okE T.F_commutator_of sc_commutator_of (fun vs H Q E h => ?_) (fun cdv A outer s H vs Q E hr h => ?_)
  · obtain ⟨o, ⟨a, b, rfl, _⟩, _⟩ := h
    rfl
  · obtain ⟨o, ⟨a, b, rfl, ha, hb, ala, alb, rfl⟩, q, qe⟩ := h
    refine ⟨_, (pss_one (ps_ret (pe_calS (c_limited T) (L2N.takes_of rfl rfl rfl rfl) (hr.mono (by decide)) (pa_cons (pe_cal (c_reduced_word T) (hr.mono (by decide)) (pa_cons (pe_op op_add_str (pe_op op_add_str (pe_op op_add_str (pv 0) (pv 1)) (pe_cal (c_opposite_word T) (hr.mono (by decide)) (pa_cons (pv 0) pa_nil))) (pe_cal (c_opposite_word T) (hr.mono (by decide)) (pa_cons (pv 1) pa_nil))) pa_nil)) pa_nil)))), ?_⟩
    wtm_at "el"
    refine ⟨szle (by omega), a, rfl, by omega, ala, fun H1 s1 => ?_⟩
    wtm_at "el"
    refine ⟨szle (by rw [List.length_append, inv_len]; omega), b, rfl, by omega, alb, fun H2 s2 => ?_⟩
    wtm_at "el"
    have hl : (a ++ b ++ inv a ++ inv b).length ≤ 240 := by simp only [List.length_append, inv_len]; omega
    have hr := red_len (a ++ b ++ inv a ++ inv b)
    refine ⟨szle (by rw [← List.length_append]; omega), a ++ b ++ inv a ++ inv b, rfl, by omega, ((ala.app alb).app ala.inv).app alb.inv, fun H3 s3 => ?_⟩
    have s4 := s1.trans (s2.trans s3)
    exact ⟨_, ⟨_, rfl, by omega, rfl⟩, fun l' e' H2 s2 => q l' e' H2 (s4.trans s2), fun m z e' H2 s2 fl hf => qe m z e' H2 (s4.trans s2) fl hf⟩
theorem c_commutator_of : Cal P w K mg base (L2N.CX P w) 4 "commutator_of" T.a_commutator_of T.d_commutator_of ["one", "other"] (spO K mg (fun vs o => ∃ (a b : List Nat), vs = [.str (Sl a), .str (Sl b)] ∧ a.length ≤ 60 ∧ b.length ≤ 60 ∧ AL a ∧ AL b ∧ o = limO (red (commW a b)))) := ⟨ok_commutator_of T, T.g_commutator_of, T.F_commutator_of.kp, T.F_commutator_of.binds fun _ _ _ _ _ _ us hl => match us, hl with | [_, _], _ => rfl⟩
theorem ok_commutator : FnOk P w K mg base (L2N.CX P w) 5 T.a_commutator T.d_commutator ["one", "other"] (spO K mg (fun vs o => ∃ (a b : List Nat), vs = [.str (Sl a), .str (Sl b)] ∧ a.length ≤ 100000 ∧ b.length ≤ 100000 ∧ o = askO [a, b] (limO (red (commW a b))))) := by
  refine okE T.F_commutator sc_commutator (fun vs H Q E h => ?_) (fun cdv A outer s H vs Q E hr h => ?_)
  · obtain ⟨o, ⟨a, b, rfl, _⟩, _⟩ := h
    rfl
  · obtain ⟨o, ⟨a, b, rfl, ha, hb, rfl⟩, q, qe⟩ := h
    refine ⟨_, (pss_cons (ps_expr (pe_calS (c_check_word T) (L2N.takes_of rfl rfl rfl rfl) (hr.mono (by decide)) (pa_cons (pv 0) pa_nil)))
      (pss_cons (ps_expr (pe_calS (c_check_word T) (L2N.takes_of rfl rfl rfl rfl) (hr.mono (by decide)) (pa_cons (pv 1) pa_nil)))
      (pss_one (ps_ret (pe_calS (c_commutator_of T) (L2N.takes_of rfl rfl rfl rfl) (hr.mono (by decide)) (pa_cons (pv 0) (pa_cons (pv 1) pa_nil))))))), ?_⟩
    wtm_at "el"
    refine w_check ha (fun m z e H' s fl hf => qe _ _ (askO_err e) H' s fl hf) fun e1 H1 s1 => ?_
    obtain ⟨ala, ha6⟩ := wErr_none e1
    wtm_at "kl"
    rw [askO_ok e1] at q qe
    refine w_check hb (fun m z e H' s fl hf => qe _ _ (askO_err e) H' (s1.trans s) fl hf) fun e2 H2 s2 => ?_
    obtain ⟨alb, hb6⟩ := wErr_none e2
    wtm_at "kl"
    rw [askO_ok e2, askO_nil] at q qe
    have s3 := s1.trans s2
    exact ⟨_, ⟨a, b, rfl, ha6, hb6, ala, alb, rfl⟩, fun l' e' H2 s2 => q l' e' H2 (s3.trans s2), fun m z e' H2 s2 fl hf => qe m z e' H2 (s3.trans s2) fl hf⟩
theorem c_commutator : Cal P w K mg base (L2N.CX P w) 5 "commutator" T.a_commutator T.d_commutator ["one", "other"] (spO K mg (fun vs o => ∃ (a b : List Nat), vs = [.str (Sl a), .str (Sl b)] ∧ a.length ≤ 100000 ∧ b.length ≤ 100000 ∧ o = askO [a, b] (limO (red (commW a b))))) := ⟨ok_commutator T, T.g_commutator, T.F_commutator.kp, T.F_commutator.binds fun _ _ _ _ _ _ us hl => match us, hl with | [_, _], _ => rfl⟩
theorem ok_joined : FnR P w K mg base (L2N.CX P w) 4 T.a_joined (spO K mg (fun vs o => ∃ ls : List (List Nat), vs = ls.map (fun l => V.str (Sl l)) ∧ ls.length ≤ 400 ∧ (∀ l ∈ ls, l.length ≤ 400) ∧ o = askO ls (limO (red ls.flatten)))) := by
  refine FnR.imp (sp' := spO K mg (fun vs o => ∃ ls : List (List Nat), vs = ls.map (fun l => V.str (Sl l)) ∧ ls.length ≤ 400 ∧ (∀ l ∈ ls, l.length ≤ 400) ∧ o = askO ls (limO (red ls.flatten)))) (okStar (ps := []) (sp := fun vs H Q E => ∃ (p : Addr) (ls : List (List Nat)), vs = [.ref p] ∧ SqT K H p (ls.map (fun l => V.str (Sl l))) ∧ ls.length ≤ 400 ∧ (∀ l ∈ ls, l.length ≤ 400) ∧
      (∀ l, askO ls (limO (red ls.flatten)) = .ok l → ∀ H', Same H H' → Q (.str (Sl l)) H') ∧ ∀ m n, askO ls (limO (red ls.flatten)) = .err m n → ∀ H', Same H H' → ∀ fl, (m, fl) ∈ ErrFs → Raised K mg m fl (.int n) E H') T.F_joined sc_joined (fun _ _ _ _ _ _ us rest hl => match us, hl, rest with | [], _, [] => rfl | [], _, _ :: _ => rfl) (fun cdv A outer s H vs Q E hr h => ?_)) fun vs H Q E h => ?_
  · obtain ⟨p, ls, rfl, hp, hl, hls, q, qe⟩ := h
    refine ⟨_, (pss_cons (ps_for (passes_of rfl) rfl (pi_tup (pv 0)) (pg_name (i := 1) sc_joined.nd rfl (Or.inl rfl)) (pss_one (ps_expr (pe_calS (c_check_word T) (L2N.takes_of rfl rfl rfl rfl) (hr.mono (by decide)) (pa_cons (pv 1) pa_nil)))))
      (pss_one (ps_ret (pe_calS (c_limited T) (L2N.takes_of rfl rfl rfl rfl) (hr.mono (by decide)) (pa_cons (pe_cal (c_reduced_word T) (hr.mono (by decide)) (pa_cons (pe_join (pe_str) (pv 0)) pa_nil)) pa_nil))))), ?_⟩
    wtm_at "el"
    refine ⟨⟨_, hp⟩, w_forT (K := K) (ls.map fun l => V.str (Sl l)) (fun i σ' H' => (∃ v, σ' = [some (.ref p), v]) ∧ Same H H' ∧ ∀ j l, j < i → ls[j]? = some l → wErr l = none) ⟨⟨_, rfl⟩, fun _ _ e => e, fun j l h => absurd h (Nat.not_lt_zero _)⟩ (fun i σ' H' _ ⟨_, s, _⟩ => seqT s hp) ?_ ?_⟩
    · rintro i x σ' H1 hx ⟨⟨v, rfl⟩, s1, hg⟩ M hM
      rw [List.getElem?_map] at hx
      obtain ⟨l, hi, rfl⟩ := Option.map_eq_some_iff.mp hx
      have hm := List.mem_of_getElem? hi
      wtm_at "el"
      refine w_check (by have := hls l hm; omega) (fun m z e H' s fl hf => ?_) fun e H2 s2 => hM _ _ ⟨⟨_, rfl⟩, s1.trans s2, fun j l' hj h' => ?_⟩
      · have ea : askO ls (limO (red ls.flatten)) = .err m z := by
          have hfs : ls.findSome? wErr = some (m, z) := by
            rw [List.findSome?_eq_some_iff]
            obtain ⟨hil, el⟩ := List.getElem?_eq_some_iff.mp hi
            refine ⟨ls.take i, l, ls.drop (i + 1), ?_, e, fun x hx => ?_⟩
            · rw [← el, List.getElem_cons_drop, List.take_append_drop]
            · obtain ⟨j, hj, ej⟩ := List.mem_iff_getElem.mp hx
              have hj2 : j < i := by rw [List.length_take] at hj; omega
              refine hg j x hj2 ?_
              rw [← ej, List.getElem_take]
              exact List.getElem?_eq_getElem _
          unfold askO
          rw [hfs]
        exact qe m z ea _ (s1.trans s) fl hf
      · rcases Nat.lt_or_ge j i with c | c
        · exact hg j l' c h'
        · have : j = i := by omega
          subst this
          rw [hi] at h'
          cases h'
          exact e
    · rintro σ' H1 ⟨⟨v, rfl⟩, s1, hg⟩
      rw [List.length_map] at hg
      have hgood : ∀ l ∈ ls, wErr l = none := fun l hl => by
        obtain ⟨j, hj, e⟩ := List.mem_iff_getElem.mp hl
        exact hg j l hj (by rw [← e]; exact List.getElem?_eq_getElem hj)
      have ea : askO ls (limO (red ls.flatten)) = limO (red ls.flatten) := by
        unfold askO
        rw [List.findSome?_eq_none_iff.mpr hgood]
      rw [ea] at q qe
      have alf : AL ls.flatten := fun c hc => by
        obtain ⟨l, hl, hcl⟩ := List.mem_flatten.mp hc
        exact (wErr_none (hgood l hl)).1 c hcl
      have hsum : ls.flatten.length ≤ 60 * ls.length := by
        clear ea q qe hg hp alf hl hls
        induction ls with
        | nil => simp
        | cons l ls ih =>
          rw [List.flatten_cons, List.length_append, List.length_cons]
          have h1 := (wErr_none (hgood l List.mem_cons_self)).2
          have h2 := ih (fun x hx => hgood x (List.mem_cons_of_mem _ hx))
          omega
      have hr := red_len ls.flatten
      wtm_at "kl"
      refine ⟨ls.map Sl, .inr (seqT s1 (by rw [List.map_map]; exact hp)), ?_, ?_⟩
      · have : ((ls.map Sl).map fun x => x.length).sum = ls.flatten.length := by
          rw [List.map_map, List.length_flatten]
          congr 1
        rw [this]
        omega
      · rw [join0]
        refine ⟨_, rfl, by omega, alf, fun H2 s2 => ⟨_, ⟨_, rfl, by omega, rfl⟩, fun l e H' s => q l e H' (s1.trans (s2.trans s)), fun m n e H' s fl hf => qe m n e H' (s1.trans (s2.trans s)) fl hf⟩⟩
  · obtain ⟨o, ⟨ls, rfl, hl, hls, rfl⟩, q, qe⟩ := h
    refine ⟨[], _, rfl, rfl, by rw [List.length_map]; exact szle (by omega), fun p hp => ⟨p, ls, rfl, SqT.of upd_same, hl, hls, fun l e H' s => q l e H' ((sameNew hp).trans s), fun m n e H' s => qe m n e H' ((sameNew hp).trans s)⟩⟩
theorem c_joined : CalR P w K mg base (L2N.CX P w) 4 "joined" T.a_joined (spO K mg (fun vs o => ∃ ls : List (List Nat), vs = ls.map (fun l => V.str (Sl l)) ∧ ls.length ≤ 400 ∧ (∀ l ∈ ls, l.length ≤ 400) ∧ o = askO ls (limO (red ls.flatten)))) := ⟨ok_joined T, T.g_joined, T.F_joined.kp⟩
theorem ok_l_bag : FnOk P w K mg base CX0 1 T.a_l_bag T.d_l_bag ["_law_script"] (sp_l_bag K) := by
  refine T.F_l_bag.ok sc_l_bag (fun vs H Q E h => ?_) (fun cdv A outer s H vs Q E hr h => ?_)
  · obtain ⟨a, ns, rfl, _⟩ := h
    rfl
  · obtain ⟨a, ns, rfl, hs, hl, ht, q⟩ := h
    refine ⟨_, (pss_one (ps_ret (pe_lst (pa_cons (pe_callTy call_list_of (by rfl) T.z_list (by decide +kernel) (pa_cons (pe_slice (r := rSlL K) sl_list (pv 0) po_none (po_some (pe_int))) pa_nil)) (pa_cons (pe_int) (pa_cons (pe_int) (pa_cons (pe_int) (pa_cons (pe_int) pa_nil)))))))), ?_⟩
    wtm_at "e"
    refine ⟨_, hs, fun p hp => ?_⟩
    refine ⟨_, .inl (SqL.of upd_same), fun l hl' => w_lstR (by simp) fun b hb => ?_⟩
    have e1 : cutV (ns.map V.int) none (some 63) = (ns.take 63).map V.int := by
      unfold cutV
      rw [List.map_take]
      show ((ns.map V.int).drop 0).take _ = _
      rw [List.drop_zero]
      unfold HT.sIx
      simp only [List.length_map]
      rw [List.take_eq_take_iff]
      simp only [List.length_map]
      rw [if_neg (by decide)]
      show min (min 63 ns.length - 0) ns.length = _
      omega
    rw [e1] at hl' hb ⊢
    have s1 : Same H (upd H p (.lst ((ns.take 63).map V.int))) := sameNew hp
    have s2 : Same H (upd (upd H p (.lst ((ns.take 63).map V.int))) l (.lst ((ns.take 63).map V.int))) := s1.trans (sameNew hl')
    have ne : ∀ {P : Addr} {x : Str}, TabNm.nm P = some x → P ≠ p ∧ P ≠ l ∧ P ≠ b := fun {P x} hP => by
      have h0 := ht P x hP
      refine ⟨ne_of_none h0 hp, fun z => ?_, fun z => ?_⟩
      · have h1 := s1 _ _ h0
        rw [z, hl'] at h1
        cases h1
      · have h1 := s2 _ _ h0
        rw [z, hb] at h1
        cases h1
    have tP : ∀ {P : Addr} {x : Str}, TabNm.nm P = some x → (upd (upd H p (.lst ((ns.take 63).map V.int))) l (.lst ((ns.take 63).map V.int))) P = some (.tbl #[]) := fun {P x} hP => s2 _ _ (ht P x hP)
    refine q b (noTab (upd (upd H p (.lst ((ns.take 63).map V.int))) l (.lst ((ns.take 63).map V.int)))) _ (fun a o e n => noTab_of (s2 a o e) n) ⟨noTab_sub.trans (sameNew hb), noTab_none hb, ⟨_, upd_same, l, ns.take 63, 0, 0, 3844, 0, rfl, noTab_of upd_same (fun ps z => by cases z), by rw [List.length_take]; omega, by decide, by decide, by decide⟩, fun P x hP => ?_⟩ (s2.free hb)
    refine ⟨noTab_tbl (tP hP), #[], by rw [upd_ne (ne hP).2.2]; exact tP hP, trivial, fun pos cv hc => ?_⟩
    have z : PySem.codeAmong pos [] = some cv := hc
    simp [PySem.codeAmong] at z
theorem c_l_bag : Cal P w K mg base CX0 1 "_law_bag" T.a_l_bag T.d_l_bag ["_law_script"] (sp_l_bag K) := ⟨ok_l_bag T, T.g_l_bag, T.F_l_bag.kp, T.F_l_bag.binds fun _ _ _ _ _ _ us hl => match us, hl with | [_], _ => rfl⟩
theorem ok_l_draw : FnOk P w K mg base CX0 1 T.a_l_draw T.d_l_draw ["_law_bag_here", "_law_many"] sp_l_draw := by
  refine T.F_l_draw.ok sc_l_draw (fun vs H Q E h => ?_) (fun cdv A outer s H vs Q E hr h => ?_)
  · obtain ⟨b, m, I, rfl, _⟩ := h
    rfl
  · obtain ⟨b, m, I, rfl, hm, hm2, wb, q⟩ := h
    obtain ⟨o, hb, l, ns, i, x, s, c, rfl, hI, hn, hx, hs0, hs1⟩ := wb.bag
    rw [← upd_self hb]
    have nlb : l ≠ b := fun z => by rw [z, wb.nb] at hI; cases hI
    have hl : ∀ o, SqL K (upd H b o) l (ns.map V.int) := fun o => SqL.of (by rw [upd_ne nlb]; exact wb.ok _ _ hI)
    refine ⟨_, (Evl.pss_cut (ps_if (PW.pt (pw_and (pt_cmpR op_eq (pe_ix (r := rIxL K) ix_list (pv 0) (pe_int) (fun _ _ => rfl)) (pe_int) (nomark _)) (pw_and1 (pt_cmpR op_lt (pe_ix (r := rIxL K) ix_list (pv 0) (pe_int) (fun _ _ => rfl)) (pe_callB (r := rLenQ K) call_len_seq (by rfl) T.z_len (by decide +kernel) (pa_cons (pe_ix (r := rIxL K) ix_list (pv 0) (pe_int) (fun _ _ => rfl)) pa_nil)) (nomark _))))) (pss_cons (ps_set (i := 2) sc_l_draw.nd rfl (Or.inl rfl) (pe_ix (r := rIxL K) ix_list (pe_ix (r := rIxL K) ix_list (pv 0) (pe_int) (fun _ _ => rfl)) (pe_ix (r := rIxL K) ix_list (pv 0) (pe_int) (fun _ _ => rfl)) (fun _ _ => rfl)))
      (pss_cons (ps_asg (pe_op op_add (pe_ix (r := rIxL K) ix_list (pv 0) (pe_int) (fun _ _ => rfl)) (pe_int)) (pg_sub (pv 0) (pe_int) set_list))
      (pss_one (ps_if (pt_cmpR op_ge (pv 2) (pe_op op_pow (pe_int) (pe_int)) (nomark _)) (pss_one (ps_asg (pv 2) (pg_sub (pv 0) (pe_int) set_list))) (pss_one (ps_asg (pe_op op_mod (pe_callTy call_int1 (by rfl) T.z_int (by decide +kernel) (pa_cons (pe_op op_add (pe_op op_add (pe_op op_mul (pe_ix (r := rIxL K) ix_list (pv 0) (pe_int) (fun _ _ => rfl)) (pe_int)) (pe_op op_mul (pe_op op_mod (pe_callTy call_int1 (by rfl) T.z_int (by decide +kernel) (pa_cons (pv 2) pa_nil)) (pe_int)) (pe_int))) (pe_int)) pa_nil)) (pe_int)) (pg_sub (pv 0) (pe_int) set_list))))))) pss_nil)
      (pss_cons (ps_if (pt_cmpR op_gt (pe_ix (r := rIxL K) ix_list (pv 0) (pe_int) (fun _ _ => rfl)) (pe_int) (nomark _)) (pss_cons (ps_set (i := 3) sc_l_draw.nd rfl (Or.inl rfl) (pe_op op_mod (pe_callTy call_int1 (by rfl) T.z_int (by decide +kernel) (pa_cons (pe_ix (r := rIxL K) ix_list (pv 0) (pe_int) (fun _ _ => rfl)) pa_nil)) (pv 1)))
      (pss_cons (ps_asg (pe_op op_fdivW (pe_ix (r := rIxL K) ix_list (pv 0) (pe_int) (fun _ _ => rfl)) (pv 1)) (pg_sub (pv 0) (pe_int) set_list))
      (pss_one (ps_ret (pv 3))))) pss_nil)
      (pss_cons (ps_asg (pe_op op_add (pe_ix (r := rIxL K) ix_list (pv 0) (pe_int) (fun _ _ => rfl)) (pe_int)) (pg_sub (pv 0) (pe_int) set_list))
      (pss_cons (ps_set (i := 4) sc_l_draw.nd rfl (Or.inl rfl) (pe_ix (r := rIxL K) ix_list (pv 0) (pe_int) (fun _ _ => rfl)))
      (pss_cons (ps_asg (pe_op op_mod (pe_callTy call_int1 (by rfl) T.z_int (by decide +kernel) (pa_cons (pe_op op_add (pe_op op_add (pe_op op_add (pe_op op_mulW (pv 4) (pv 4)) (pe_op op_mul (pv 4) (pe_int))) (pe_op op_mul (pe_ix (r := rIxL K) ix_list (pv 0) (pe_int) (fun _ _ => rfl)) (pe_int))) (pe_int)) pa_nil)) (pe_int)) (pg_sub (pv 0) (pe_int) set_list))
      (pss_one (ps_ret (pe_op op_mod (pe_callTy call_int1 (by rfl) T.z_int (by decide +kernel) (pa_cons (pe_op op_add (pe_op op_fdivW (pe_ix (r := rIxL K) ix_list (pv 0) (pe_int) (fun _ _ => rfl)) (pe_int)) (pe_op op_mul (pe_op op_mod (pe_callTy call_int1 (by rfl) T.z_int (by decide +kernel) (pa_cons (pe_ix (r := rIxL K) ix_list (pv 0) (pe_int) (fun _ _ => rfl)) pa_nil)) (pe_int)) (pe_int))) pa_nil)) (pv 1))))))))), ?_⟩
    refine w_cut (fun σ' H' => ∃ v2 o, σ' = [some (.ref b), some (.int m), v2, none, none] ∧ H' = upd H b o ∧ BagO I o) (fun M hM => ?_) ?_
    · wtm_at "e"
      refine ⟨_, SqL.of upd_same, _, rfl, ?_⟩
      wtm_at "e"
      refine ite2 (fun hx0 => ?_) (fun hx0 => ?_)
      · refine ⟨_, SqL.of upd_same, _, rfl, _, SqL.of upd_same, _, rfl, ?_⟩
        wtm_at "E"
        refine ⟨_, .inl (hl _), ?_⟩
        wtm_at "E"
        refine ite2 (fun hi => ?_) (fun hi => ?_)
        · have hi' : i < ns.length := by simpa using hi
          refine ⟨_, SqL.of upd_same, _, rfl, _, SqL.of upd_same, _, rfl, ?_⟩
          wtm_at "e"
          refine ⟨_, hl _, .int ns[i], atI_nat (by rw [List.getElem?_map, List.getElem?_eq_getElem hi']; rfl), ?_⟩
          wtm_at "krb"
          wtm_at "krb"
          refine ⟨⟨by decide, by decide, by decide⟩, ite2 (fun hc => ?_) (fun hc => ?_)⟩
          · wtm_at "rb"
            have e10 : (10 : Int) ^ (18 : Int).toNat = 1000000000000000000 := by decide
            exact hM _ _ ⟨_, _, rfl, rfl, l, ns, i + 1, _, s, c, rfl, hI, hn, by omega, hs0, hs1⟩
          · wtm_at "rb"
            refine ⟨cmulc (by decide) (by decide), by decide, cmulc (by decide) (by decide), by decide, ?_⟩
            wtm_at "rb"
            exact hM _ _ ⟨_, _, rfl, rfl, l, ns, i + 1, x, _, c, rfl, hI, hn, hx, Int.emod_nonneg _ (by decide), Int.emod_lt_of_pos _ (by decide)⟩
        · exact hM _ _ ⟨none, _, rfl, rfl, l, ns, i, x, s, c, rfl, hI, hn, hx, hs0, hs1⟩
      · exact hM _ _ ⟨none, _, rfl, rfl, l, ns, i, x, s, c, rfl, hI, hn, hx, hs0, hs1⟩
    · rintro σ' H' ⟨v2, o, rfl, rfl, l, ns, i, x, s, c, rfl, hI, hn, hx, hs0, hs1⟩
      wtm_at "rb"
      refine ite2 (fun hx0 => ?_) (fun hx0 => ?_)
      · wtm_at "rb"
        refine ⟨hm, ?_⟩
        wtm_at "krb"
        refine ⟨⟨hm, hm2⟩, ?_⟩
        wtm_at "rb"
        wtm_at "krb"
        exact q _ _ (Int.emod_nonneg _ (by omega)) (Int.emod_lt_of_pos _ hm) ⟨l, ns, i, _, s, c, rfl, hI, hn, Int.ediv_nonneg hx (by omega), hs0, hs1⟩
      · wtm_at "krb"
        wtm_at "krb"
        wtm_at "krb"
        have hlg : CMulW s s := wide_mul (a := 32) (b := 32) (by omega) (by omega) (by decide) (by decide) (by decide)
        refine ⟨hlg, cmulc (by decide) (by decide), ?_⟩
        wtm_at "rb"
        refine ⟨cmulc (by decide) (by decide), by decide, ?_⟩
        wtm_at "rb"
        wtm_at "krb"
        refine ⟨⟨by decide, by decide⟩, ?_⟩
        wtm_at "rb"
        refine ⟨by decide, cmulc (by decide) (by decide), hm, ?_⟩
        exact q _ _ (Int.emod_nonneg _ (by omega)) (Int.emod_lt_of_pos _ hm) ⟨l, ns, i, x, _, _, rfl, hI, hn, hx, Int.emod_nonneg _ (by decide), Int.emod_lt_of_pos _ (by decide)⟩
theorem c_l_draw : Cal P w K mg base CX0 1 "_law_draw" T.a_l_draw T.d_l_draw ["_law_bag_here", "_law_many"] sp_l_draw := ⟨ok_l_draw T, T.g_l_draw, T.F_l_draw.kp, T.F_l_draw.binds fun _ _ _ _ _ _ us hl => match us, hl with | [_, _], _ => rfl⟩
theorem ok_l_any : FnOk P w K mg base CX0 2 T.a_l_any T.d_l_any ["_law_bag_here", "_law_things"] (sp_l_any K) := by
  refine T.F_l_any.ok sc_l_any (fun vs H Q E h => ?_) (fun cdv A outer s H vs Q E hr h => ?_)
  · obtain ⟨b, I, wb, ⟨t, xs, rfl, _⟩ | ⟨z, rfl, _⟩⟩ := h <;> rfl
  · refine ⟨_, (pss_one (ps_ret (pe_ix (r := rIx K) ix_seq (pv 1) (pe_cal (c_l_draw T) (hr.mono (by decide)) (pa_cons (pv 0) (pa_cons (pe_callB (r := rLenV K) call_len (by rfl) T.z_len (by decide +kernel) (pa_cons (pv 1) pa_nil)) pa_nil))) (fun _ _ => rfl)))), ?_⟩
    obtain ⟨b, I, wb, ⟨t, xs, rfl, hx, h0, h1, q⟩ | ⟨z, rfl, h0, h1, q⟩⟩ := h
    · wtm_at "e"
      have h2 := seqA wb.ok hx
      refine ⟨xs.length, ?_, ?_⟩
      · rcases h2 with h | h
        · exact .inl ⟨xs, h, rfl⟩
        · exact .inr ⟨xs, h, rfl⟩
      refine ⟨b, _, I, rfl, by omega, lgLen h1, wb, fun n o n0 n1 ho => ?_⟩
      obtain ⟨x, e1, e2⟩ := natGet n0 n1
      exact w_ixA (seqA (wb.upd ho).ok hx) e2 (q _ _ _ e1 ho)
    · wtm_at "e"
      have hz : z.length ≤ sizeLine := by rw [sizeLine_eq]; omega
      refine ⟨hz, b, _, I, rfl, by omega, lgLen h1, wb, fun n o n0 n1 ho => ?_⟩
      have hn : n < z.cps.toList.length := by rw [Array.length_toList]; exact n1
      obtain ⟨x, e1, e2⟩ := natGet n0 hn
      exact w_ixAS hz e2 (q _ _ _ e1 ho)
theorem c_l_any : Cal P w K mg base CX0 2 "_law_any" T.a_l_any T.d_l_any ["_law_bag_here", "_law_things"] (sp_l_any K) := ⟨ok_l_any T, T.g_l_any, T.F_l_any.kp, T.F_l_any.binds fun _ _ _ _ _ _ us hl => match us, hl with | [_, _], _ => rfl⟩
def sp_l_drawn_word (K : Fr) : Sp := fun vs H Q E => ∃ (b : Addr) (I : Hp) (n : Nat) (z : List Nat), vs = [.ref b, .int (n : Nat), .str (Sl z)] ∧ W b I H ∧ n ≤ 1000 ∧ 0 < z.length ∧ z.length ≤ 1000 ∧ ∀ l I' H', Go b I H I' H' → (∀ c ∈ l, c ∈ z) → l.length ≤ n → Q (.str (Sl l)) H'
theorem ok_l_drawn_word : FnOk P w K mg base CX0 3 T.a_l_drawn_word T.d_l_drawn_word ["_law_bag_here", "_law_most", "_law_signs"] (sp_l_drawn_word K) := by
  refine T.F_l_drawn_word.ok sc_l_drawn_word (fun vs H Q E h => ?_) (fun cdv A outer s H vs Q E hr h => ?_)
  · obtain ⟨b, I, n, z, rfl, _⟩ := h
    rfl
  · obtain ⟨b, I, n, z, rfl, wb, hn, hz0, hz, q⟩ := h
    refine ⟨_, (pss_one (ps_ret (pe_join (pe_str) (pe_lc (own := [("_law_k", 3)]) (g := gName 3) (tt := tYes) rfl sc_l_drawn_word.nd (pi_range1 (by rfl) T.z_range (pa_cons (pe_cal (c_l_draw T) (hr.mono (by decide)) (pa_cons (pv 0) (pa_cons (pe_op op_add (pv 1) (pe_int)) pa_nil))) pa_nil)) (blkOk_by (own := [("_law_k", 3)]) (N := nl_l_drawn_word) (sc := defScope s_l_drawn_word) (by decide +kernel)) (fun _ _ _ _ _ => (pg_name (i := 3) sc_l_drawn_word.nd rfl (Or.inl rfl))) (fun _ _ _ _ _ => pts_nil) (fun _ _ _ _ _ => (pe_cal (c_l_any T) (hr.mono (by decide)) (pa_cons (pv 0) (pa_cons (pv 2) pa_nil)))))))), ?_⟩
    wtm_at "el"
    refine w_drawN (m := n + 1) wb (by omega) (by omega) fun k H1 hk w1 b1 => ?_
    wtm_at "el"
    refine ⟨by omega, by omega, fun D hD => ?_⟩
    try rw [Int.toNat_natCast]
    refine w_lcW walk_range (by omega) w1 hD (fun i I' xs => ∃ l, xs = l.map (fun c => V.str (Sl [c])) ∧ l.length = i ∧ ∀ c ∈ l, c ∈ z) ⟨[], rfl, rfl, by simp⟩ (fun _ _ _ => trivial) ?_ ?_
    · rintro i x xs I1 H2 H3 hi g1 m1 ⟨l, rfl, hl, hz2⟩ ⟨rfl, rfl⟩ N hN
      wtm_at "el"
      refine w_anyS g1.w (by rw [sl_len]; exact hz0) (by rw [sl_len]; omega) fun j c H3 hc w3 b3 => ?_
      refine hN _ I1 _ (.but w3 b3) ⟨l ++ [c], by simp, by simp [hl], fun d hd => ?_⟩
      rcases List.mem_append.mp hd with hd | hd
      · exact hz2 d hd
      · rw [List.mem_singleton.mp hd]
        exact List.mem_of_getElem? hc
    · rintro xs I' H' g _ s2 hx ⟨l, rfl, hl, hz2⟩
      have g := (Go.but w1 b1).trans g
      refine ⟨D, rfl, (l.map fun c => [c]).map Sl, .inl (SqL.of ?_), ?_, ?_⟩
      · rw [g.w.ok _ _ upd_same]
        simp only [List.map_map]
        rfl
      · rw [lens1]
        omega
      · rw [join01]
        exact q _ _ _ g hz2 (by omega)
theorem c_l_drawn_word : Cal P w K mg base CX0 3 "_law_drawn_word" T.a_l_drawn_word T.d_l_drawn_word ["_law_bag_here", "_law_most", "_law_signs"] (sp_l_drawn_word K) := ⟨ok_l_drawn_word T, T.g_l_drawn_word, T.F_l_drawn_word.kp, T.F_l_drawn_word.binds fun _ _ _ _ _ _ us hl => match us, hl with | [_, _, _], _ => rfl⟩
def sp_l_opposite : Sp := fun vs H Q E => ∃ c : Nat, vs = [.str (Sl [c])] ∧ isL c = true ∧ Q (.str (Sl [opN c])) H
theorem ok_l_opposite : FnOk P w K mg base CX0 1 T.a_l_opposite T.d_l_opposite ["_law_sign"] sp_l_opposite := by
  refine T.F_l_opposite.ok sc_l_opposite (fun vs H Q E h => ?_) (fun cdv A outer s H vs Q E hr h => ?_)
  · obtain ⟨l, rfl, _⟩ := h
    rfl
  · obtain ⟨c, rfl, hc, q⟩ := h
    refine ⟨_, (pss_one (ps_ret (pe_ifExp (pt_val (pe_m0 PySem.F.slot_str_isupper PySem.F.type_str_isupper mt_isupper (pv 0))) (pe_lower (pv 0)) (pe_upper (pv 0))))), ?_⟩
    wtm_at "el"
    obtain ⟨e1, e2, e3⟩ := oppers hc
    rw [e1]
    refine ite2 (fun h => ?_) (fun h => ?_)
    · rw [e2 (by simpa using h)]
      exact q
    · rw [e3 (by simpa using h)]
      exact q
theorem c_l_opposite : Cal P w K mg base CX0 1 "_law_opposite" T.a_l_opposite T.d_l_opposite ["_law_sign"] sp_l_opposite := ⟨ok_l_opposite T, T.g_l_opposite, T.F_l_opposite.kp, T.F_l_opposite.binds fun _ _ _ _ _ _ us hl => match us, hl with | [_], _ => rfl⟩
def sp_l_inverse : Sp := fun vs H Q E => ∃ l : List Nat, vs = [.str (Sl l)] ∧ l.length ≤ 100000 ∧ AL l ∧ ∀ H', Same H H' → Q (.str (Sl (inv l))) H'
theorem ok_l_inverse : FnOk P w K mg base CX0 2 T.a_l_inverse T.d_l_inverse ["_law_word"] sp_l_inverse := by
  refine T.F_l_inverse.ok sc_l_inverse (fun vs H Q E h => ?_) (fun cdv A outer s H vs Q E hr h => ?_)
  · obtain ⟨l, rfl, _⟩ := h
    rfl
  · obtain ⟨l, rfl, hl, al, q⟩ := h
    refine ⟨_, (pss_one (ps_ret (pe_join (pe_str) (pe_lc (own := [("_law_sign", 1)]) (g := gName 1) (tt := tYes) rfl sc_l_inverse.nd (pi_str (pe_revS (pv 0))) (blkOk_by (own := [("_law_sign", 1)]) (N := nl_l_inverse) (sc := defScope s_l_inverse) (by decide +kernel)) (fun _ _ _ _ _ => (pg_name (i := 1) sc_l_inverse.nd rfl (Or.inl rfl))) (fun _ _ _ _ _ => pts_nil) (fun _ _ _ _ _ => (pe_cal (c_l_opposite T) (hr.mono (by decide)) (pa_cons (pv 1) pa_nil))))))), ?_⟩
    wtm_at "el"
    refine ⟨szle hl, fun D hD => w_lcPS (f := fun c => .str (Sl [opN c])) hD (by rw [List.length_reverse]; exact hl) (fun _ => rfl) (fun c hc H1 Q1 s1 h1 => ?_) fun H1 s1 e1 => ?_⟩
    · wtm_at "el"
      exact ⟨c, rfl, al c (List.mem_reverse.mp hc), h1 _ fun _ _ e => e⟩
    · refine ⟨D, rfl, ((inv l).map fun c => [c]).map Sl, .inl (SqL.of ?_), ?_, ?_⟩
      · rw [e1]
        unfold inv
        simp only [List.map_map]
        rfl
      · rw [lens1, inv_len]
        omega
      · rw [join01]
        exact q _ s1
theorem c_l_inverse : Cal P w K mg base CX0 2 "_law_inverse" T.a_l_inverse T.d_l_inverse ["_law_word"] sp_l_inverse := ⟨ok_l_inverse T, T.g_l_inverse, T.F_l_inverse.kp, T.F_l_inverse.binds fun _ _ _ _ _ _ us hl => match us, hl with | [_], _ => rfl⟩
theorem like_step (n : Nat) (FR : FnOk P w K mg base CX0 n T.a_l_like T.d_l_like ["_law_found", "_law_due"] (sp_l_likeP K n)) : FnOk P w K mg base CX0 (n + 1) T.a_l_like T.d_l_like ["_law_found", "_law_due"] (sp_l_like K n) := by
  have CR : Cal P w K mg base CX0 n "_law_like" T.a_l_like T.d_l_like ["_law_found", "_law_due"] (sp_l_likeP K n) := ⟨FR, T.g_l_like, T.F_l_like.kp, T.F_l_like.binds fun _ _ _ _ _ _ us hl => match us, hl with | [_, _], _ => rfl⟩
  refine T.F_l_like.ok sc_l_like (fun vs H Q E h => ?_) (fun cdv A outer s H vs Q E hr h => ?_)
  · obtain ⟨v, w, d, rfl, _⟩ := h
    rfl
  · obtain ⟨v, w, d, rfl, h1, h2, hd, q⟩ := h
    refine ⟨_, (pss_cons (ps_if (pt_val (pe_callB (r := rIsi K) call_isi (by rfl) T.z_isinstance (by decide +kernel) (pa_cons (pv 1) (pa_cons (pe_tyN "dict" (by rfl) T.z_dict (by decide +kernel)) pa_nil)))) (pss_cons ps_never
      (pss_one ps_never)) pss_nil)
      (pss_cons (ps_if (pt_val (pe_callB (r := rIsiT K) call_isiT (by rfl) T.z_isinstance (by decide +kernel) (pa_cons (pv 1) (pa_cons (pe_tup (pa_cons (pe_tyN "list" (by rfl) T.z_list (by decide +kernel)) (pa_cons (pe_tyN "tuple" (by rfl) T.z_tuple (by decide +kernel)) pa_nil))) pa_nil)))) (pss_cons (ps_if (pt_cmpR op_ne (pe_callB (r := rIsi K) call_isi (by rfl) T.z_isinstance (by decide +kernel) (pa_cons (pv 0) (pa_cons (pe_tyN "list" (by rfl) T.z_list (by decide +kernel)) pa_nil))) (pe_callB (r := rIsi K) call_isi (by rfl) T.z_isinstance (by decide +kernel) (pa_cons (pv 1) (pa_cons (pe_tyN "list" (by rfl) T.z_list (by decide +kernel)) pa_nil))) (nomark _)) (pss_one (ps_ret (pe_bl))) pss_nil)
      (pss_cons (ps_if (PW.pt (pw_or (pt_cmpR op_ne (pe_callB (r := rIsi K) call_isi (by rfl) T.z_isinstance (by decide +kernel) (pa_cons (pv 0) (pa_cons (pe_tyN "tuple" (by rfl) T.z_tuple (by decide +kernel)) pa_nil))) (pe_callB (r := rIsi K) call_isi (by rfl) T.z_isinstance (by decide +kernel) (pa_cons (pv 1) (pa_cons (pe_tyN "tuple" (by rfl) T.z_tuple (by decide +kernel)) pa_nil))) (nomark _)) (pw_or1 (pt_cmpR op_ne (pe_callB (r := rLenV K) call_len (by rfl) T.z_len (by decide +kernel) (pa_cons (pv 0) pa_nil)) (pe_callB (r := rLenV K) call_len (by rfl) T.z_len (by decide +kernel) (pa_cons (pv 1) pa_nil)) (nomark _))))) (pss_one (ps_ret (pe_bl))) pss_nil)
      (pss_one (ps_ret (pe_callB (r := rAll K) (cr_all rfl) (by rfl) T.z_all (by decide +kernel) (pa_cons (pe_lc (own := [("_law_at", 3)]) (g := gName 3) (tt := tYes) rfl sc_l_like.nd (pi_range1 (by rfl) T.z_range (pa_cons (pe_callB (r := rLenV K) call_len (by rfl) T.z_len (by decide +kernel) (pa_cons (pv 1) pa_nil)) pa_nil)) (blkOk_by (own := [("_law_at", 3)]) (N := nl_l_like) (sc := defScope s_l_like) (by decide +kernel)) (fun _ _ _ _ _ => (pg_name (i := 3) sc_l_like.nd rfl (Or.inl rfl))) (fun _ _ _ _ _ => pts_nil) (fun _ _ _ _ _ => (pe_cal CR hr (pa_cons (pe_ix (r := rIx K) ix_seq (pv 0) (pv 3) (fun _ _ => rfl)) (pa_cons (pe_ix (r := rIx K) ix_seq (pv 1) (pv 3) (fun _ _ => rfl)) pa_nil))))) pa_nil)))))) pss_nil)
      (pss_cons (ps_if (PW.pt (pw_or (pt_cmpR op_isN (pv 1) (pe_non) (nomark _)) (pw_or1 (pt_cmpR op_isN (pv 0) (pe_non) (nomark _))))) (pss_one (ps_ret ((pe_and (pe_cmpR op_isN (pv 1) (pe_non) (nomark _)) (pe_one (pe_cmpR op_isN (pv 0) (pe_non) (nomark _))))))) pss_nil)
      (pss_cons (ps_if (pt_cmpR op_ne (pe_callB (r := rIsi K) call_isi (by rfl) T.z_isinstance (by decide +kernel) (pa_cons (pv 1) (pa_cons (pe_tyN "bool" (by rfl) T.z_bool (by decide +kernel)) pa_nil))) (pe_callB (r := rIsi K) call_isi (by rfl) T.z_isinstance (by decide +kernel) (pa_cons (pv 0) (pa_cons (pe_tyN "bool" (by rfl) T.z_bool (by decide +kernel)) pa_nil))) (nomark _)) (pss_one (ps_ret (pe_bl))) pss_nil)
      (pss_cons (ps_if (pt_cmpR op_ne (pe_callB (r := rIsi K) call_isi (by rfl) T.z_isinstance (by decide +kernel) (pa_cons (pv 1) (pa_cons (pe_tyN "int" (by rfl) T.z_int (by decide +kernel)) pa_nil))) (pe_callB (r := rIsi K) call_isi (by rfl) T.z_isinstance (by decide +kernel) (pa_cons (pv 0) (pa_cons (pe_tyN "int" (by rfl) T.z_int (by decide +kernel)) pa_nil))) (nomark _)) (pss_one (ps_ret (pe_bl))) pss_nil)
      (pss_one (ps_ret ((pe_and (pe_cmpR op_eq (pe_callB (r := rIsi K) call_isi (by rfl) T.z_isinstance (by decide +kernel) (pa_cons (pv 0) (pa_cons (pe_tyN "str" (by rfl) T.z_str (by decide +kernel)) pa_nil))) (pe_callB (r := rIsi K) call_isi (by rfl) T.z_isinstance (by decide +kernel) (pa_cons (pv 1) (pa_cons (pe_tyN "str" (by rfl) T.z_str (by decide +kernel)) pa_nil))) (nomark _)) (pe_one (pe_cmpR op_eq (pv 0) (pv 1) (nomark _)))))))))))), ?_⟩
    wtm_at "e"
    refine w_isi h2 (by simp) ?_
    have nd : isB "dict" d = false := by
      cases d with
      | dict => cases n <;> cases hd
      | _ => first | exact isB_dict_none | exact isB_dict_bool _ | exact isB_dict_int _ | exact isB_dict_str _ | exact isB_dict_list _ | exact isB_dict_tuple _
    rw [nd]
    wtm_at "e"
    wtm_at "k"
    refine w_tupR (by simp) fun p hp => ?_
    have s1 : Same H (upd H p (.tup [.ty "list", .ty "tuple"])) := sameNew hp
    refine w_isiT (dpm h2 s1) upd_same ?_
    have g1 := dpm h1 s1
    have g2 := dpm h2 s1
    generalize upd H p (.tup [.ty "list", .ty "tuple"]) = H1 at s1 g1 g2 ⊢
    cases d with
    | dict => cases n <;> cases hd
    | none =>
      cases g1
      cases g2
      repeat (first | exact q _ s1 | wtm_at "e" | wtm_at "k" | refine w_isi .non (by simp) ?_)
    | bool b =>
      cases g1
      cases g2
      repeat (first | exact q _ s1 | wtm_at "e" | wtm_at "k" | refine w_isi (.bl b) (by simp) ?_)
    | int i =>
      cases g1
      cases g2
      repeat (first | exact q _ s1 | wtm_at "e" | wtm_at "k" | refine w_isi (.int i) (by simp) ?_)
    | str x =>
      cases g1
      cases g2
      repeat (first | exact q _ s1 | wtm_at "e" | wtm_at "k" | refine w_isi (.str x) (by simp) ?_)
    | list ds =>
      cases g1 with
      | lst ha1 hb1 =>
      cases g2 with
      | lst ha2 hb2 =>
      repeat (first | wtm_at "e" | wtm_at "k" | refine w_isi (.lst ha1 hb1) (by simp) ?_ | refine w_isi (.lst ha2 hb2) (by simp) ?_)
      have l1 := dpLen hb1
      have l2 := dpLen hb2
      have hd0 : 0 < n := by cases n with | zero => cases hd | succ n => exact Nat.succ_pos n
      obtain ⟨n, rfl⟩ : ∃ m, n = m + 1 := ⟨n - 1, by omega⟩
      have hd1 : ds.length ≤ 1000 ∧ ∀ d ∈ ds, lkd n d = true := by
        have z : (decide (ds.length ≤ 1000) && ds.all (lkd n)) = true := hd
        rw [Bool.and_eq_true, decide_eq_true_eq, List.all_eq_true] at z
        exact z
      refine ⟨_, .inl ⟨_, ha1, rfl⟩, _, .inl ⟨_, ha2, rfl⟩, ifN (by rw [l1, l2]; simp) ?_⟩
      wtm_at "k"
      refine ⟨_, .inl ⟨_, ha2, rfl⟩, by omega, by omega, fun D hD => ?_⟩
      refine w_lcR (fun i H' => Same H1 H' ∧ H' D = some (.lst (List.replicate i (V.bl true)))) ⟨sameNew hD, upd_same⟩ ?_ ?_
      · rintro i H' hi ⟨sm, hl⟩ N hN
        have hi' : i < ds.length := by rw [← l2]; simpa using hi
        obtain ⟨x, ex, dx⟩ := dpGet hb1 (List.getElem?_eq_getElem hi')
        obtain ⟨y, ey, dy⟩ := dpGet hb2 (List.getElem?_eq_getElem hi')
        wtm_at "e"
        refine w_ixA (.inl (Same.seq sm ha1)) (by (try rw [Int.zero_add]); exact atI_nat ex) ?_
        refine w_ixA (.inl (Same.seq sm ha2)) (by (try rw [Int.zero_add]); exact atI_nat ey) ?_
        refine ⟨x, y, ds[i], rfl, dpm dx sm, dpm dy sm, hd1.2 _ (List.getElem_mem hi'), fun H2 s2 => ?_⟩
        refine ⟨_, s2 _ _ hl, small1000 (by rw [List.length_replicate]; omega), hN _ ⟨fun b o e => ?_, ?_⟩⟩
        · rw [upd_ne (ne_of_none e hD)]; exact s2 _ _ (sm b o e)
        · rw [upd_same, List.replicate_succ']
      · rintro H' ⟨sm, hl⟩
        refine ⟨D, List.replicate ds.length true, rfl, SqL.of ?_, ?_⟩
        · rw [hl, l2]; simp
        · rw [show (List.replicate ds.length true).all id = true by simp]
          exact q _ (s1.trans sm)
    | tuple ds =>
      cases g1 with
      | tup ha1 hb1 =>
      cases g2 with
      | tup ha2 hb2 =>
      repeat (first | wtm_at "e" | wtm_at "k" | refine w_isi (.tup ha1 hb1) (by simp) ?_ | refine w_isi (.tup ha2 hb2) (by simp) ?_)
      have l1 := dpLen hb1
      have l2 := dpLen hb2
      have hd0 : 0 < n := by cases n with | zero => cases hd | succ n => exact Nat.succ_pos n
      obtain ⟨n, rfl⟩ : ∃ m, n = m + 1 := ⟨n - 1, by omega⟩
      have hd1 : ds.length ≤ 1000 ∧ ∀ d ∈ ds, lkd n d = true := by
        have z : (decide (ds.length ≤ 1000) && ds.all (lkd n)) = true := hd
        rw [Bool.and_eq_true, decide_eq_true_eq, List.all_eq_true] at z
        exact z
      refine ⟨_, .inr ⟨_, ha1, rfl⟩, _, .inr ⟨_, ha2, rfl⟩, ifN (by rw [l1, l2]; simp) ?_⟩
      wtm_at "k"
      refine ⟨_, .inr ⟨_, ha2, rfl⟩, by omega, by omega, fun D hD => ?_⟩
      refine w_lcR (fun i H' => Same H1 H' ∧ H' D = some (.lst (List.replicate i (V.bl true)))) ⟨sameNew hD, upd_same⟩ ?_ ?_
      · rintro i H' hi ⟨sm, hl⟩ N hN
        have hi' : i < ds.length := by rw [← l2]; simpa using hi
        obtain ⟨x, ex, dx⟩ := dpGet hb1 (List.getElem?_eq_getElem hi')
        obtain ⟨y, ey, dy⟩ := dpGet hb2 (List.getElem?_eq_getElem hi')
        wtm_at "e"
        refine w_ixA (.inr (seqT sm ha1)) (by (try rw [Int.zero_add]); exact atI_nat ex) ?_
        refine w_ixA (.inr (seqT sm ha2)) (by (try rw [Int.zero_add]); exact atI_nat ey) ?_
        refine ⟨x, y, ds[i], rfl, dpm dx sm, dpm dy sm, hd1.2 _ (List.getElem_mem hi'), fun H2 s2 => ?_⟩
        refine ⟨_, s2 _ _ hl, small1000 (by rw [List.length_replicate]; omega), hN _ ⟨fun b o e => ?_, ?_⟩⟩
        · rw [upd_ne (ne_of_none e hD)]; exact s2 _ _ (sm b o e)
        · rw [upd_same, List.replicate_succ']
      · rintro H' ⟨sm, hl⟩
        refine ⟨D, List.replicate ds.length true, rfl, SqL.of ?_, ?_⟩
        · rw [hl, l2]; simp
        · rw [show (List.replicate ds.length true).all id = true by simp]
          exact q _ (s1.trans sm)
theorem ok_l_like : ∀ n : Nat, FnOk P w K mg base CX0 (n + 1) T.a_l_like T.d_l_like ["_law_found", "_law_due"] (sp_l_like K n)
  | 0 => like_step T 0 fn_never
  | n + 1 => like_step T (n + 1) (ok_l_like n)
--nocal
theorem c_l_like (n : Nat) : Cal P w K mg base CX0 (n + 1) "_law_like" T.a_l_like T.d_l_like ["_law_found", "_law_due"] (sp_l_like K n) := ⟨ok_l_like T n, T.g_l_like, T.F_l_like.kp, T.F_l_like.binds fun _ _ _ _ _ _ us hl => match us, hl with | [_, _], _ => rfl⟩
--setlevel 5
--nocal
theorem ok_l_field (p : Addr × Obj) {cls : Value} {od : Option Addr} (hz : L2N.Zn cls od p.2) (hw : ∃ ws, p.2.data = .fields ws) : FnP P w K mg base 1 T.a_l_field T.d_l_field ["_law_e"] p (sp_l_field K p.1 cls od) := by
  refine okP T.F_l_field sc_l_field (fun vs H Q E h => ?_) (fun cdv A outer s H vs Q E hr h => ?_)
  · obtain ⟨rfl, _⟩ := h
    rfl
  · obtain ⟨rfl, C, d, m, f, v, rfl, rfl, rc, rf, hm, hx, q⟩ := h
    have hc := hz.1
    have hd := hz.2.1
    have hf : f ≠ "code" := (show ∀ x ∈ ErrFs, x.2 ≠ "code" by decide +kernel) _ hm
    refine ⟨_, (pss_cons (ps_if (pt_cmpR (r := rIn K false) op_in_seq (pe_xat (p := p) List.mem_cons_self (pv 0)) (pe_tup (pa_cons (pe_str) (pa_cons (pe_str) pa_nil))) (by rfl)) (pss_one (ps_ret (pe_xat (p := p) List.mem_cons_self (pv 0)))) pss_nil)
      (pss_cons (ps_if (pt_cmpR (r := rIn K false) op_in_seq (pe_xat (p := p) List.mem_cons_self (pv 0)) (pe_tup (pa_cons (pe_str) (pa_cons (pe_str) (pa_cons (pe_str) pa_nil)))) (by rfl)) (pss_one (ps_ret (pe_xat (p := p) List.mem_cons_self (pv 0)))) pss_nil)
      (pss_cons (ps_if (pt_cmpR (r := rIn K false) op_in_seq (pe_xat (p := p) List.mem_cons_self (pv 0)) (pe_tup (pa_cons (pe_str) (pa_cons (pe_str) (pa_cons (pe_str) pa_nil)))) (by rfl)) (pss_one (ps_ret (pe_xat (p := p) List.mem_cons_self (pv 0)))) pss_nil)
      (pss_cons (ps_if (pt_cmpR (r := rIn K false) op_in_seq (pe_xat (p := p) List.mem_cons_self (pv 0)) (pe_tup (pa_cons (pe_str) (pa_cons (pe_str) (pa_cons (pe_str) pa_nil)))) (by rfl)) (pss_one (ps_ret (pe_xat (p := p) List.mem_cons_self (pv 0)))) pss_nil)
      (pss_cons (ps_if (pt_cmpR (r := rIn K false) op_in_seq (pe_xat (p := p) List.mem_cons_self (pv 0)) (pe_tup (pa_cons (pe_str) (pa_cons (pe_str) pa_nil))) (by rfl)) (pss_one (ps_ret (pe_ifExp (pt_cmpR op_eq (pe_xat (p := p) List.mem_cons_self (pv 0)) (pe_str) (nomark _)) (pe_xat (p := p) List.mem_cons_self (pv 0)) (pe_xat (p := p) List.mem_cons_self (pv 0))))) pss_nil)
      (pss_cons (ps_if (pt_cmpR (r := rIn K false) op_in_seq (pe_xat (p := p) List.mem_cons_self (pv 0)) (pe_tup (pa_cons (pe_str) (pa_cons (pe_str) (pa_cons (pe_str) (pa_cons (pe_str) (pa_cons (pe_str) pa_nil)))))) (by rfl)) (pss_one (ps_ret (pe_xat (p := p) List.mem_cons_self (pv 0)))) pss_nil)
      (pss_one (ps_ret (pe_ifExp (pt_cmpR op_eq (pe_xat (p := p) List.mem_cons_self (pv 0)) (pe_str) (nomark _)) (pe_non) (pe_xat (p := p) List.mem_cons_self (pv 0))))))))))), ?_⟩
    refine s_fldS (cs := ["InvalidWord", "InvalidText"]) rfl hc hd hw rc rf hm hx q (fun _ _ _ q => q) (by decide) (by decide +kernel) fun n1 H1 s1 => ?_
    refine s_fldS (cs := ["InvalidCount", "InvalidCopies", "InvalidCapacity"]) rfl hc hd hw rc rf hm (s1 _ _ hx) (fun H' s => q _ (s1.trans s)) (fun _ _ _ q => q) (by decide) (by decide +kernel) fun n2 H2 s2 => ?_
    have s2 := s1.trans s2
    refine s_fldS (cs := ["TooLong", "TooMany", "Full"]) rfl hc hd hw rc rf hm (s2 _ _ hx) (fun H' s => q _ (s2.trans s)) (fun _ _ _ q => q) (by decide) (by decide +kernel) fun n3 H3 s3 => ?_
    have s3 := s2.trans s3
    refine s_fldS (cs := ["Unbalanced", "InvalidImage", "NotUndoable"]) rfl hc hd hw rc rf hm (s3 _ _ hx) (fun H' s => q _ (s3.trans s)) (fun _ _ _ q => q) (by decide) (by decide +kernel) fun n4 H4 s4 => ?_
    have s4 := s3.trans s4
    refine s_fldT (cs := ["InUse", "InvalidPage"]) rfl hc hd hw rc hf (s4 _ _ hx) (fun _ _ _ q => q) (by decide) fun H5 s5 => ?_
    have s5 := s4.trans s5
    by_cases n5 : m ∈ (["InUse", "InvalidPage"] : List Str)
    · rw [if_pos (decide_eq_true n5)]
      wtm_at "e"
      refine ⟨C, hc, d, hd, hw, rc, _, s5 _ _ hx, .str m, lkC hf, ?_⟩
      wtm_at "e"
      have h1 : ∀ x ∈ ErrFs, x.1 ∈ (["InUse", "InvalidPage"] : List Str) → (x.1 = "InUse" ∧ x.2 = "user") ∨ (x.1 ≠ "InUse" ∧ x.2 = "line") := by decide +kernel
      rcases h1 _ hm n5 with ⟨e1, e2⟩ | ⟨e1, e2⟩
      · have e1 : m = "InUse" := e1
        have e2 : f = "user" := e2
        subst e1 e2
        rw [if_pos (by simp)]
        exact ⟨C, hc, d, hd, hw, rf, _, s5 _ _ hx, v, lkF, q _ s5⟩
      · have e1 : m ≠ "InUse" := e1
        have e2 : f = "line" := e2
        subst e2
        rw [if_neg (by simpa using e1)]
        exact ⟨C, hc, d, hd, hw, rf, _, s5 _ _ hx, v, lkF, q _ s5⟩
    · rw [if_neg (by rw [decide_eq_false n5]; exact Bool.false_ne_true)]
      refine s_fldS (cs := ["InvalidName", "WrongKind", "DuplicateName", "Circular", "UnknownName"]) rfl hc hd hw rc rf hm (s5 _ _ hx) (fun H' s => q _ (s5.trans s)) (fun _ _ _ q => q) (by decide) (by decide +kernel) fun n6 H6 s6 => ?_
      have s6 := s5.trans s6
      have h1 : ∀ x ∈ ErrFs, x.1 ∉ (["InvalidWord", "InvalidText"] : List Str) → x.1 ∉ (["InvalidCount", "InvalidCopies", "InvalidCapacity"] : List Str) → x.1 ∉ (["TooLong", "TooMany", "Full"] : List Str) → x.1 ∉ (["Unbalanced", "InvalidImage", "NotUndoable"] : List Str) → x.1 ∉ (["InUse", "InvalidPage"] : List Str) →
        x.1 ∉ (["InvalidName", "WrongKind", "DuplicateName", "Circular", "UnknownName"] : List Str) → x.1 ≠ "NothingLeft" ∧ x.2 = "index" := by decide +kernel
      obtain ⟨e1, e2⟩ := h1 _ hm n1 n2 n3 n4 n5 n6
      have e1 : m ≠ "NothingLeft" := e1
      have e2 : f = "index" := e2
      subst e2
      wtm_at "e"
      refine ⟨C, hc, d, hd, hw, rc, _, s6 _ _ hx, .str m, lkC hf, ?_⟩
      wtm_at "e"
      rw [if_neg (by simpa using e1)]
      exact ⟨C, hc, d, hd, hw, rf, _, s6 _ _ hx, v, lkF, q _ s6⟩
theorem ok_l_try : FnOk P w K mg base CX0 7 T.a_l_try T.d_l_try ["_law_ask"] (sp_l_try P w K mg 6 base) := by
  refine T.F_l_try.ok sc_l_try (fun vs H Q E h => ?_) (fun cdv A outer s H vs Q E hr h => ?_)
  · obtain ⟨f, os, tb, le, σ0, rfl, _⟩ := h
    rfl
  · obtain ⟨f, os, tb, le, σ0, rfl, Th, ce, ho, ht⟩ := h
    refine ⟨_, pss_one (ps_try3 (i := 1) (tb := fun W0 => tRet (tTup (tCons (tC (.str "value")) (tCons (tAsk P w K mg base 6 0 (WE W0)) tNil)))) (ts := fun a cls d => tRet (tTup (tCons (tXatA K a cls d "code" (tVar 1)) (tCons (tCallP (sp_l_field K a cls d) (tCons (tVar 1) tNil)) tNil))))
      rfl rfl sc_l_try.nd rfl rfl ⟨rfl, by decide, .inl T.h_HemError⟩ ⟨rfl, by decide, .inl T.h_UnknownName⟩ ⟨rfl, by decide, .inl T.h_NothingLeft⟩
      (fun W0 pn xe tk _ => pss_one (ps_ret (pe_tup (pa_cons pe_str (pa_cons (pe_ask tk (hr.mono (by decide)) rfl (Or.inl rfl)) pa_nil)))))
      (fun a oe cls d pn hz hw => pss_one (ps_ret (pe_tup (pa_cons (pe_xatA List.mem_cons_self hz hw (pv 1)) (pa_cons (pe_callP (ok_l_field T (a, oe) hz hw) ⟨(hr.mono (j := 1) (by decide)).dp, (hr.mono (j := 1) (by decide)).un⟩ ⟨rfl, ?_⟩ List.mem_cons_self T.g_l_field T.F_l_field.kp (T.F_l_field.binds fun _ _ _ _ _ _ us hl => match us, hl with | [_], _ => rfl) (pa_cons (pv 1) pa_nil)) pa_nil)))))), ?_⟩
    · obtain ⟨ws, h⟩ := hw
      exact ⟨ws, h, hz.2.2 ws h⟩
    · refine ⟨f, os, tb, le, σ0, rfl, Th, ce, ho, ht _ _ (fun v H1 hv => ?_) (fun cls dd H1 hx => ?_)⟩
      · exact ⟨szle (by simp), fun p hp => hv p hp⟩
      · obtain ⟨C, d, m, fl, v, rfl, rfl, X, hx, q⟩ := hx
        obtain ⟨HE, UN, NL, g1, g2, g3, hm⟩ := X.exm
        have e1 := T.h_HemError.symm.trans g1
        have e2 := T.h_UnknownName.symm.trans g2
        have e3 := T.h_NothingLeft.symm.trans g3
        cases e1
        cases e2
        cases e3
        have hf : fl ≠ "code" := (show ∀ x ∈ ErrFs, x.2 ≠ "code" by decide +kernel) _ X.fs
        refine ⟨hm, fun a _ => ?_⟩
        refine ⟨_, rfl, rfl, C, d, _, .str m, rfl, rfl, X.rc, hx, lkC hf, ?_⟩
        refine ⟨_, rfl, rfl, C, d, m, fl, v, rfl, rfl, X.rc, X.rp, X.fs, hx, fun H2 s2 => ?_⟩
        exact ⟨szle (by simp), fun p hp => q _ s2 p hp⟩
theorem c_l_try : Cal P w K mg base CX0 7 "_law_try" T.a_l_try T.d_l_try ["_law_ask"] (sp_l_try P w K mg 6 base) := ⟨ok_l_try T, T.g_l_try, T.F_l_try.kp, T.F_l_try.binds fun _ _ _ _ _ _ us hl => match us, hl with | [_], _ => rfl⟩
def sp_l_limited (K : Fr) : Sp := fun vs H Q E => ∃ (b : Addr) (I : Hp) (l : List Nat), vs = [.str (Sl l)] ∧ W b I H ∧ l.length ≤ 10000 ∧ ∀ v I' H', Go b I H I' H' → Dp K I' v (limO l).out.data → Q v H'
theorem ok_l_limited : FnOk P w K mg base CX0 1 T.a_l_limited T.d_l_limited ["_law_word"] (sp_l_limited K) := by
  refine T.F_l_limited.ok sc_l_limited (fun vs H Q E h => ?_) (fun cdv A outer s H vs Q E hr h => ?_)
  · obtain ⟨b, I, l, rfl, _⟩ := h
    rfl
  · obtain ⟨b, I, l, rfl, wb, hl, q⟩ := h
    refine ⟨_, (pss_one (ps_ret (pe_ifExp (pt_cmpR op_lt (pe_callB call_len_str (by rfl) T.z_len (by decide +kernel) (pa_cons (pv 0) pa_nil)) (pe_int) (nomark _)) (pe_tup (pa_cons (pe_str) (pa_cons (pv 0) pa_nil))) (pe_tup (pa_cons (pe_str) (pa_cons (pe_int) pa_nil)))))), ?_⟩
    wtm_at "el"
    refine ⟨szle (by omega), ite2 (fun h6 => ?_) (fun h6 => ?_)⟩
    · refine w_mkTG (K := K) wb (by simp) (.cons (.str _) (.cons (.str _) .nil)) fun v I' H' g' d' => q v I' H' g' ?_
      rw [limO_ok (by omega)]
      exact d'
    · refine w_mkTG (K := K) wb (by simp) (.cons (.str _) (.cons (.int _) .nil)) fun v I' H' g' d' => q v I' H' g' ?_
      rw [limO_long (by omega)]
      exact d'
theorem c_l_limited : Cal P w K mg base CX0 1 "_law_limited" T.a_l_limited T.d_l_limited ["_law_word"] (sp_l_limited K) := ⟨ok_l_limited T, T.g_l_limited, T.F_l_limited.kp, T.F_l_limited.binds fun _ _ _ _ _ _ us hl => match us, hl with | [_], _ => rfl⟩
def sp_l_reduced : Sp := fun vs H Q E => ∃ l : List Nat, vs = [.str (Sl l)] ∧ l.length ≤ 100000 ∧ AL l ∧ ∀ H', Same H H' → Q (.str (Sl (red l))) H'
theorem ok_l_reduced : FnOk P w K mg base CX0 2 T.a_l_reduced T.d_l_reduced ["_law_word"] sp_l_reduced := by
  refine T.F_l_reduced.ok sc_l_reduced (fun vs H Q E h => ?_) (fun cdv A outer s H vs Q E hr h => ?_)
  · obtain ⟨l, rfl, _⟩ := h
    rfl
  · obtain ⟨l, rfl, hl, al, q⟩ := h
    refine ⟨_, (pss_cons (ps_set (i := 1) sc_l_reduced.nd rfl (Or.inl rfl) (pe_str))
      (pss_cons (ps_for PassesOwn.never rfl (pi_str (pv 0)) (pg_name (i := 2) sc_l_reduced.nd rfl (Or.inl rfl)) (pss_one (ps_if (PW.pt (pw_and (pt_cmpR op_ne (pv 1) (pe_str) (nomark _)) (pw_and1 (pt_cmpR op_eq (pe_ix (r := rIxS) ix_str (pv 1) (pe_un un_neg (pe_int)) (fun _ _ => rfl)) (pe_cal (c_l_opposite T) (hr.mono (by decide)) (pa_cons (pv 2) pa_nil)) (nomark _))))) (pss_one (ps_set (i := 1) sc_l_reduced.nd rfl (Or.inl rfl) (pe_slice (r := rSlS) sl_str (pv 1) po_none (po_some (pe_un un_neg (pe_int)))))) (pss_one (ps_set (i := 1) sc_l_reduced.nd rfl (Or.inl rfl) (pe_op op_add_str (pv 1) (pv 2)))))))
      (pss_one (ps_ret (pv 1))))), ?_⟩
    wtm_at "el"
    wtm_at "kl"
    refine w_forS (fun i σ' H' => (∃ v, σ' = [some (.str (Sl l)), some (.str (Sl (red (l.take i)))), v]) ∧ Same H H') ⟨⟨_, rfl⟩, fun _ _ e => e⟩ ?_ ?_
    · rintro i c σ' H1 hc ⟨⟨v, rfl⟩, s1⟩ M hM
      have hc : l[i]? = some c := hc
      have ic := al c (List.mem_of_getElem? hc)
      have il := (List.getElem?_eq_some_iff.mp hc).1
      have hrl := red_len (l.take i)
      rw [List.length_take] at hrl
      have go : (∀ t, red (l.take i) ≠ t ++ [opN c]) → M [some (.str (Sl l)), some (.str (Sl (red (l.take i) ++ [c]))), some (.str (Sl [c]))] H1 := fun h => by
        refine hM _ _ ⟨⟨some (.str (Sl [c])), ?_⟩, s1⟩
        rw [take_snoc hc, red_put h]
      wtm_at "el"
      rcases snocCases (red (l.take i)) with e | ⟨t, d, e⟩
      · have z := go (fun t z => by rw [e] at z; simp at z)
        rw [e] at z ⊢
        rw [if_neg (by simp)]
        wtm_at "el"
        exact z
      · have n : red (l.take i) ≠ [] := by rw [e]; simp
        rw [if_pos (by simpa using n)]
        rw [e]
        refine ⟨by rw [← e]; exact szle (by omega), d, atI_last _ _, c, rfl, ic, ?_⟩
        wtm_at "el"
        refine ite2 (fun h1 => ?_) (fun h1 => ?_)
        · have h1 : d = opN c := by simpa using h1
          subst h1
          refine ⟨by rw [← e]; exact szle (by omega), hM _ _ ⟨⟨some (.str (Sl [c])), ?_⟩, s1⟩⟩
          rw [take_snoc hc, red_pop e]
          simp
        · have h1 : d ≠ opN c := by simpa using h1
          have z := go (fun t' z => by
            rw [e] at z
            have := (List.append_inj' z rfl).2
            simp at this
            exact h1 this)
          rw [e] at z
          refine ⟨?_, z⟩
          have : (t ++ [d]).length ≤ 100000 := by rw [← e]; omega
          rw [sizeLine_eq]
          simp at this ⊢
          omega
    · rintro σ' H1 ⟨⟨v, rfl⟩, s1⟩
      rw [sl_tl, List.take_length]
      wtm_at "kl"
      exact q _ s1
theorem c_l_reduced : Cal P w K mg base CX0 2 "_law_reduced" T.a_l_reduced T.d_l_reduced ["_law_word"] sp_l_reduced := ⟨ok_l_reduced T, T.g_l_reduced, T.F_l_reduced.kp, T.F_l_reduced.binds fun _ _ _ _ _ _ us hl => match us, hl with | [_], _ => rfl⟩
theorem ok_l_tries : FnOk P w K mg base CX0 8 T.a_l_tries T.d_l_tries ["_law_asks"] (sp_l_tries P w K mg 6 base) := by
  refine T.F_l_tries.ok sc_l_tries (fun vs H Q E h => ?_) (fun cdv A outer s H vs Q E hr h => ?_)
  · obtain ⟨I, L, fs, os, rfl, _⟩ := h
    rfl
  · obtain ⟨I, L, fs, os, rfl, sI, hL, hlen, hT, q⟩ := h
    refine ⟨_, (pss_one (ps_ret (pe_lc (own := [("_law_ask", 1)]) (g := gName 1) (tt := tYes) rfl sc_l_tries.nd (pi_list (pv 0)) (blkOk_by (own := [("_law_ask", 1)]) (N := nl_l_tries) (sc := defScope s_l_tries) (by decide +kernel)) (fun _ _ _ _ _ => (pg_name (i := 1) sc_l_tries.nd rfl (Or.inl rfl))) (fun _ _ _ _ _ => pts_nil) (fun _ _ _ _ _ => (pe_cal (c_l_try (w := w) (base := base) T) (hr.mono (by decide)) (pa_cons (pv 1) pa_nil)))))), ?_⟩
    wtm_at "e"
    refine ⟨⟨_, sI.seq hL⟩, fun D hD => ?_⟩
    refine w_lcL (xs := fs.map V.ref) (fun i H' => ∃ Ii xs, Same I Ii ∧ Same Ii H' ∧ (∀ a, I a = none → H a ≠ none → Ii a = none) ∧ Same H H' ∧ Ii D = none ∧ H' D = some (.lst xs) ∧ xs.length = i ∧ DpAll K Ii xs ((os.take i).map Out.data)) ?_ ?_ ?_ ?_
    · refine ⟨I, [], fun _ _ e => e, fun a u e => ?_, fun a e _ => e, sameNew hD, ?_, upd_same, rfl, .nil⟩
      · rw [upd_ne (ne_of_none (sI _ _ e) hD)]
        exact sI _ _ e
      · cases e : I D with
        | none => rfl
        | some u =>
          have z := sI _ _ e
          rw [hD] at z
          cases z
    · rintro i H' _ ⟨Ii, xs, s1, s2, _⟩
      exact s2.seq (s1.seq hL)
    · rintro i x H' hi ⟨Ii, xs, s1, s2, fr, s3, nD, hx, hlx, hd⟩ M hM
      obtain ⟨f, hf, rfl⟩ : ∃ f, fs[i]? = some f ∧ x = V.ref f := by
        rw [List.getElem?_map] at hi
        cases e : fs[i]? with
        | none => rw [e] at hi; cases hi
        | some f => rw [e] at hi; exact ⟨f, rfl, (Option.some.inj hi).symm⟩
      obtain ⟨o, ho⟩ : ∃ o, os[i]? = some o := by
        have h1 := (List.getElem?_eq_some_iff.mp hf).1
        rw [hT.1] at h1
        exact ⟨_, List.getElem?_eq_getElem h1⟩
      have hiL := (List.getElem?_eq_some_iff.mp hf).1
      wtm_at "e"
      refine ((hT.2 i f o hf ho).mono s1).try_ s2 fun v I2 H2 pu dv => ?_
      have hD2 := pu.sm _ _ hx
      have nD2 : I2 D = none := pu.fr D nD (by rw [hx]; exact fun z => by cases z)
      refine ⟨xs, hD2, by rw [hlx, sizeLine_eq]; omega, hM _ ⟨I2, xs ++ [v], s1.trans pu.im, fun a u e => ?_, fun a e n => ?_, fun a u e => ?_, nD2, upd_same, by rw [List.length_append, hlx]; rfl, ?_⟩⟩
      · have : a ≠ D := fun z => by rw [z, nD2] at e; cases e
        rw [upd_ne this]
        exact pu.ok _ _ e
      · exact pu.fr a (fr a e n) fun z => by
          cases q : H a with
          | none => exact n q
          | some u =>
            have z2 := s3 _ _ q
            rw [z] at z2
            cases z2
      · rw [upd_ne (ne_of_none e hD)]
        exact pu.sm _ _ (s3 _ _ e)
      · have e1 : os.take (i + 1) = os.take i ++ [o] := by
          rw [List.take_succ, ho]
          rfl
        rw [e1, List.map_append]
        exact dpAppend (dpmA hd pu.im) (.cons dv .nil)
    · rintro H' ⟨Ii, xs, s1, s2, fr, s3, nD, hx, hlx, hd⟩
      rw [List.length_map, hT.1, List.take_length] at hd
      have sD : Same Ii (upd Ii D (.lst xs)) := fun a u e => by
        have : a ≠ D := fun z => by rw [z, nD] at e; cases e
        rw [upd_ne this]
        exact e
      refine q _ (upd Ii D (.lst xs)) H' ⟨⟨s1.trans sD, fun a u e => ?_, fun a e n => ?_⟩, s3⟩ (dpNewL (dpmA hd sD))
      · by_cases z : a = D
        · subst z
          rw [upd_same] at e
          rw [hx]
          exact e
        · rw [upd_ne z] at e
          exact s2 _ _ e
      · have : a ≠ D := fun z => n (by rw [z]; exact hD)
        rw [upd_ne this]
        exact fr a e n
theorem c_l_tries : Cal P w K mg base CX0 8 "_law_tries" T.a_l_tries T.d_l_tries ["_law_asks"] (sp_l_tries P w K mg 6 base) := ⟨ok_l_tries T, T.g_l_tries, T.F_l_tries.kp, T.F_l_tries.binds fun _ _ _ _ _ _ us hl => match us, hl with | [_], _ => rfl⟩
--nocal
def sp_l_limits_so : Sp := fun vs H Q E => ∃ (b : Addr) (I : Hp), vs = [] ∧ W b I H ∧ ∀ H', Q (.bl true) H'
theorem ok_l_limits_so {Pt : Addr} (TB : LamX.TabB base mg T.e_l_limits_so Pt) (hq : TabNm.nm Pt = some (lamQ "_law_limits_so")) : FnOk P w K mg base CX0 9 T.a_l_limits_so T.d_l_limits_so [] sp_l_limits_so := by
  refine T.F_l_limits_so.ok sc_l_limits_so (fun vs H Q E h => ?_) (fun A outer s H vs Q E le hle hr h => ?_)
  · obtain ⟨b, I, rfl, _⟩ := h
    rfl
  · obtain ⟨b, I, rfl, wb, q⟩ := h
    refine ⟨_, (pss_cons (ps_set (i := 0) sc_l_limits_so.nd rfl (Or.inl rfl) (pe_lst (pa_cons (pe_lamB (k := 5) (P := P) (w := w) (K := K) (mg := mg) (le := le) (q := lamQ "_law_limits_so") rfl rfl rfl rfl hle rfl TB rfl (show lscB nl_l_limits_so [] _ = true by decide +kernel) (show lfrB (defScope s_l_limits_so) _ = true by decide +kernel) rfl rfl (fun _ _ _ _ _ _ => rfl) (fun base cl dv c1 f A outer s H E hr => (pe_calS (c_power T) (L2N.takes_of rfl rfl rfl rfl) (hr.mono (by decide)) (pa_cons (pe_str) (pa_cons (pe_int) pa_nil))))) (pa_cons (pe_lamD (k := 5) (y := "_law_a") (P := P) (w := w) (K := K) (mg := mg) (le := le) (q := lamQ "_law_limits_so") rfl rfl rfl rfl hle rfl TB rfl (show lscB nl_l_limits_so ["_law_a"] _ = true by decide +kernel) (show lfrB (defScope s_l_limits_so) _ = true by decide +kernel) rfl rfl (fun _ _ _ _ _ _ _ _ => ⟨_, rfl, rfl⟩) (fun base cl dv c1 f A outer s H E hr => (pe_calS (c_power T) (L2N.takes_of rfl rfl rfl rfl) (hr.mono (by decide)) (pa_cons (pe_str) (pa_cons (pe_int) pa_nil))))) (pa_cons (pe_lamD (k := 5) (y := "_law_b") (P := P) (w := w) (K := K) (mg := mg) (le := le) (q := lamQ "_law_limits_so") rfl rfl rfl rfl hle rfl TB rfl (show lscB nl_l_limits_so ["_law_b"] _ = true by decide +kernel) (show lfrB (defScope s_l_limits_so) _ = true by decide +kernel) rfl rfl (fun _ _ _ _ _ _ _ _ => ⟨_, rfl, rfl⟩) (fun base cl dv c1 f A outer s H E hr => (pe_callKS (ck_power_1_exponent T) (L2N.takes_of rfl rfl rfl rfl) (hr.mono (by decide)) (pa_cons (pe_str) pa_nil) (pk_cons (pe_op op_pow (pe_int) (pe_int)) pk_nil)))) pa_nil)))))
      (pss_cons (ps_set (i := 1) sc_l_limits_so.nd rfl (Or.inl rfl) (pe_lst (pa_cons (pe_tup (pa_cons (pe_str) (pa_cons (pe_op op_add_str (pe_op op_add_str (pe_str) (pe_op op_mulSl (pe_str) (pe_int))) (pe_str)) pa_nil))) (pa_cons (pe_tup (pa_cons (pe_str) (pa_cons (pe_int) pa_nil))) (pa_cons (pe_tup (pa_cons (pe_str) (pa_cons (pe_str) pa_nil))) pa_nil)))))
      (pss_cons (ps_set (i := 0) sc_l_limits_so.nd rfl (Or.inl rfl) (pe_op op_cat (pv 0) (pe_lst (pa_cons (pe_lamB (k := 5) (P := P) (w := w) (K := K) (mg := mg) (le := le) (q := lamQ "_law_limits_so") rfl rfl rfl rfl hle rfl TB rfl (show lscB nl_l_limits_so [] _ = true by decide +kernel) (show lfrB (defScope s_l_limits_so) _ = true by decide +kernel) rfl rfl (fun _ _ _ _ _ _ => rfl) (fun base cl dv c1 f A outer s H E hr => (pe_callR (c_joined T) (L2N.takes_of rfl rfl rfl rfl) (hr.mono (by decide)) (pa_cons (pe_str) (pa_cons (pe_str) (pa_cons (pe_str) (pa_cons (pe_str) (pa_cons (pe_str) (pa_cons (pe_str) pa_nil))))))))) (pa_cons (pe_lamD (k := 5) (y := "_law_a") (P := P) (w := w) (K := K) (mg := mg) (le := le) (q := lamQ "_law_limits_so") rfl rfl rfl rfl hle rfl TB rfl (show lscB nl_l_limits_so ["_law_a"] _ = true by decide +kernel) (show lfrB (defScope s_l_limits_so) _ = true by decide +kernel) rfl rfl (fun _ _ _ _ _ _ _ _ => ⟨_, rfl, rfl⟩) (fun base cl dv c1 f A outer s H E hr => (pe_callR (c_joined T) (L2N.takes_of rfl rfl rfl rfl) (hr.mono (by decide)) (pa_cons (pe_str) (pa_cons (pe_str) (pa_cons (pe_str) (pa_cons (pe_str) (pa_cons (pe_str) (pa_cons (pe_str) (pa_cons (pe_str) pa_nil)))))))))) pa_nil)))))
      (pss_cons (ps_set (i := 1) sc_l_limits_so.nd rfl (Or.inl rfl) (pe_op op_cat (pv 1) (pe_lst (pa_cons (pe_tup (pa_cons (pe_str) (pa_cons (pe_str) pa_nil))) (pa_cons (pe_tup (pa_cons (pe_str) (pa_cons (pe_int) pa_nil))) pa_nil)))))
      (pss_cons (ps_set (i := 0) sc_l_limits_so.nd rfl (Or.inl rfl) (pe_op op_cat (pv 0) (pe_lst (pa_cons (pe_lamB (k := 5) (P := P) (w := w) (K := K) (mg := mg) (le := le) (q := lamQ "_law_limits_so") rfl rfl rfl rfl hle rfl TB rfl (show lscB nl_l_limits_so [] _ = true by decide +kernel) (show lfrB (defScope s_l_limits_so) _ = true by decide +kernel) rfl rfl (fun _ _ _ _ _ _ => rfl) (fun base cl dv c1 f A outer s H E hr => (pe_callR (c_joined T) (L2N.takes_of rfl rfl rfl rfl) (hr.mono (by decide)) (pa_cons (pe_op op_mulSl (pe_str) (pe_int)) (pa_cons (pe_str) (pa_cons (pe_str) pa_nil)))))) (pa_cons (pe_lamD (k := 5) (y := "_law_a") (P := P) (w := w) (K := K) (mg := mg) (le := le) (q := lamQ "_law_limits_so") rfl rfl rfl rfl hle rfl TB rfl (show lscB nl_l_limits_so ["_law_a"] _ = true by decide +kernel) (show lfrB (defScope s_l_limits_so) _ = true by decide +kernel) rfl rfl (fun _ _ _ _ _ _ _ _ => ⟨_, rfl, rfl⟩) (fun base cl dv c1 f A outer s H E hr => (pe_callR (c_joined T) (L2N.takes_of rfl rfl rfl rfl) (hr.mono (by decide)) (pa_cons (pe_op op_mulSl (pe_str) (pe_int)) (pa_cons (pe_op op_mulSl (pe_str) (pe_int)) (pa_cons (pe_op op_mulSl (pe_str) (pe_int)) pa_nil)))))) pa_nil)))))
      (pss_cons (ps_set (i := 1) sc_l_limits_so.nd rfl (Or.inl rfl) (pe_op op_cat (pv 1) (pe_lst (pa_cons (pe_tup (pa_cons (pe_str) (pa_cons (pe_int) pa_nil))) (pa_cons (pe_tup (pa_cons (pe_str) (pa_cons (pe_op op_mulSl (pe_str) (pe_int)) pa_nil))) pa_nil)))))
      (pss_one (ps_ret ((pe_and (pe_cmpR (r := rEqD K) (op_eqD hr.units) (pe_callL (E := fun _ _ _ _ => False) hle (fun B => c_l_tries (base := B) T) (hr.mono (by decide)) (fun _ _ _ _ _ _ _ z => False.elim z) (pa_cons (pv 0) pa_nil)) (pv 1) (nomark _)) (pe_one (pe_cmpR (r := rEqD K) (op_eqD hr.units) (pe_lst (pa_cons (pe_callR0 (c_joined T) takesN (hr.mono (by decide))) (pa_cons (pe_calS (c_power T) takesN (hr.mono (by decide)) (pa_cons (pe_str) (pa_cons (pe_un un_neg (pe_int)) pa_nil))) (pa_cons (pe_calS (c_commutator T) takesN (hr.mono (by decide)) (pa_cons (pe_str) (pa_cons (pe_str) pa_nil))) pa_nil)))) (pe_lst (pa_cons (pe_str) (pa_cons (pe_op op_mulSl (pe_str) (pe_int)) (pa_cons (pe_str) pa_nil)))) (nomark _))))))))))))), ?_⟩
    wtm_at "el"
    refine w_lam wb hq fun f1 os1 I1 H1 w1 s1 o1 T1 => w_lam w1 hq fun f2 os2 I2 H2 w2 s2 o2 T2 => w_lam w2 hq fun f3 os3 I3 H3 w3 s3 o3 T3 => ?_
    refine w_lstW w3 (by simp) fun p1 I4 H4 w4 s4 h4 => ?_
    wtm_at "kl"
    refine ⟨by decide, by decide, by decide, ?_⟩
    refine ⟨szle (by rw [repL_len]; decide), szle (by rw [repL_len]; decide), ?_⟩
    refine w_mkT (K := K) w4 (by simp) (.cons (.str _) (.cons (.str _) .nil)) fun v1 I5 H5 w5 s5 d1 => ?_
    refine w_mkT (K := K) w5 (by simp) (.cons (.str _) (.cons (.int _) .nil)) fun v2 I6 H6 w6 s6 d2 => ?_
    refine w_mkT (K := K) w6 (by simp) (.cons (.str _) (.cons (.str _) .nil)) fun v3 I7 H7 w7 s7 d3 => ?_
    have dA := DpAll.cons (dpm d1 (s6.trans s7)) (.cons (dpm d2 s7) (.cons d3 .nil))
    refine w_mkL2 (K := K) w7 (by simp) dA fun p2 I8 H8 w8 s8 h8 _ => ?_
    wtm_at "kl"
    refine w_lam w8 hq fun f4 os4 I9 H9 w9 s9 o4 T4 => w_lam w9 hq fun f5 os5 I10 H10 w10 s10 o5 T5 => ?_
    refine w_lstW w10 (by simp) fun p3 I11 H11 w11 s11 h11 => ?_
    refine w_catR w11 ((s5.trans (s6.trans (s7.trans (s8.trans (s9.trans (s10.trans s11)))))) _ _ h4) h11 (by simp) fun p4 I12 H12 w12 s12 h12 => ?_
    wtm_at "kl"
    refine w_mkT (K := K) w12 (by simp) (.cons (.str _) (.cons (.str _) .nil)) fun v4 I13 H13 w13 s13 d4 => ?_
    refine w_mkT (K := K) w13 (by simp) (.cons (.str _) (.cons (.int _) .nil)) fun v5 I14 H14 w14 s14 d5 => ?_
    have dB := DpAll.cons (dpm d4 s14) (.cons d5 .nil)
    refine w_mkL2 (K := K) w14 (by simp) dB fun p5 I15 H15 w15 s15 h15 _ => ?_
    have sA : Same I8 I15 := s9.trans (s10.trans (s11.trans (s12.trans (s13.trans (s14.trans s15)))))
    refine w_catD (K := K) w15 (sA _ _ h8) h15 (by simp) (dpmA dA (s8.trans sA)) (dpmA dB s15) fun p6 I16 H16 w16 s16 h16 _ => ?_
    have dAB := dpAppend (dpmA dA (s8.trans (sA.trans s16))) (dpmA dB (s15.trans s16))
    wtm_at "kl"
    refine w_lam w16 hq fun f6 os6 I17 H17 w17 s17 o6 T6 => w_lam w17 hq fun f7 os7 I18 H18 w18 s18 o7 T7 => ?_
    refine w_lstW w18 (by simp) fun p7 I19 H19 w19 s19 h19 => ?_
    refine w_catR w19 ((s13.trans (s14.trans (s15.trans (s16.trans (s17.trans (s18.trans s19)))))) _ _ h12) h19 (by simp) fun p8 I20 H20 w20 s20 h20 => ?_
    wtm_at "kl"
    refine w_mkT (K := K) w20 (by simp) (.cons (.str _) (.cons (.int _) .nil)) fun v6 I21 H21 w21 s21 d6 => ?_
    refine ⟨by decide, by decide, by decide, ?_⟩
    refine w_mkT (K := K) w21 (by simp) (.cons (.str _) (.cons (.str _) .nil)) fun v7 I22 H22 w22 s22 d7 => ?_
    have dC := DpAll.cons (dpm d6 s22) (.cons d7 .nil)
    refine w_mkL2 (K := K) w22 (by simp) dC fun p9 I23 H23 w23 s23 h23 _ => ?_
    have sB : Same I16 I23 := s17.trans (s18.trans (s19.trans (s20.trans (s21.trans (s22.trans s23)))))
    refine w_catD (K := K) w23 (sB _ _ h16) h23 (by simp) (dpmA dAB sB) (dpmA dC s23) fun p10 I24 H24 w24 s24 h24 d24 => ?_
    wtm_at "kl"
    refine fun B ce => ?_
    have q1 : askO [[97, 98, 65]] (powO [97, 98, 65] 58) = .ok (97 :: (repL 58 [98] ++ [65])) := by decide +kernel
    have q2 : askO [[97, 98, 65]] (powO [97, 98, 65] 59) = .err "TooLong" 60 := by decide +kernel
    have q3 : askO [[97, 65]] (powO [97, 65] (10 ^ 9)) = .ok [] := by
      have e : red (powW [97, 65] (10 ^ 9)) = [] := power_nil _ (by decide +kernel)
      unfold powO
      rw [e]
      decide +kernel
    have q4 : askO [[97, 98], [66, 99], [], [100], [68, 67], [98]] (limO (red [[97, 98], [66, 99], [], [100], [68, 67], [98]].flatten)) = .ok [97, 98] := by decide +kernel
    have q5 : askO [[97], [98], [99], [100], [97], [98], [63]] (limO (red [[97], [98], [99], [100], [97], [98], [63]].flatten)) = .err "InvalidWord" 0 := by decide +kernel
    have q6 : askO [repL 60 [97], [98], [120]] (limO (red [repL 60 [97], [98], [120]].flatten)) = .err "InvalidWord" 0 := by decide +kernel
    have q7 : askO [repL 40 [97], repL 40 [98], repL 40 [66]] (limO (red [repL 40 [97], repL 40 [98], repL 40 [66]].flatten)) = .ok (repL 40 [97]) := by decide +kernel
    have sE : Same I3 I24 := s4.trans (s5.trans (s6.trans (s7.trans (s8.trans (sA.trans (s16.trans (sB.trans s24)))))))
    have sF : Same I10 I24 := s11.trans (s12.trans (s13.trans (s14.trans (s15.trans (s16.trans (sB.trans s24))))))
    have sG : Same I18 I24 := s19.trans (s20.trans (s21.trans (s22.trans (s23.trans s24))))
    have r1 := thr_G T1 ce (fun p hp => sE _ _ (s3 _ _ (s2 _ _ (o1 p hp)))) (fun E H Q h => by
      wtm_at "el"
      exact h _ _ (fun _ _ e => e) ⟨_, _, rfl, by decide, by decide, q1.symm⟩)
    have r2 := thr_G T2 ce (fun p hp => sE _ _ (s3 _ _ (o2 p hp))) (fun E H Q h => by
      wtm_at "el"
      exact h _ _ (fun _ _ e => e) ⟨_, _, rfl, by decide, by decide, q2.symm⟩)
    have r3 := thr_G T3 ce (fun p hp => sE _ _ (o3 p hp)) (fun E H Q h => by
      wtm_at "el"
      refine ⟨⟨by decide, by decide, by decide⟩, h _ _ (fun _ _ e => e) ⟨_, _, rfl, by decide, by decide, q3.symm⟩⟩)
    have r4 := thr_G T4 ce (fun p hp => sF _ _ (s10 _ _ (o4 p hp))) (fun E H Q h => by
      wtm_at "el"
      exact h _ _ (fun _ _ e => e) ⟨[[97, 98], [66, 99], [], [100], [68, 67], [98]], rfl, by decide, by decide, q4.symm⟩)
    have r5 := thr_G T5 ce (fun p hp => sF _ _ (o5 p hp)) (fun E H Q h => by
      wtm_at "el"
      exact h _ _ (fun _ _ e => e) ⟨[[97], [98], [99], [100], [97], [98], [63]], rfl, by decide, by decide, q5.symm⟩)
    have r6 := thr_G T6 ce (fun p hp => sG _ _ (s18 _ _ (o6 p hp))) (fun E H Q h => by
      wtm_at "el"
      exact ⟨by decide, by decide, by decide, h _ _ (fun _ _ e => e) ⟨[repL 60 [97], [98], [120]], rfl, by decide, by decide, q6.symm⟩⟩)
    have r7 := thr_G T7 ce (fun p hp => sG _ _ (o7 p hp)) (fun E H Q h => by
      wtm_at "el"
      exact ⟨by decide, by decide, by decide, by decide, by decide, by decide, by decide, by decide, by decide, h _ _ (fun _ _ e => e) ⟨[repL 40 [97], repL 40 [98], repL 40 [66]], rfl, by decide, by decide, q7.symm⟩⟩)
    refine w_tries (fs := [f1, f2, f3, f4, f5, f6, f7]) w24 ((s21.trans (s22.trans (s23.trans s24))) _ _ h20) (by simp) (thrs_cons r1 (thrs_cons r2 (thrs_cons r3 (thrs_cons r4 (thrs_cons r5 (thrs_cons r6 (thrs_cons r7 thrs_nil))))))) fun v I25 H25 w25 s25 d25 => ?_
    refine w_eqS (dpm d25 w25.ok) (dpm d24 (s25.trans w25.ok)) (by decide +kernel) ?_
    wtm_at "el"
    have z1 : askO [] (limO (red ([] : List (List Nat)).flatten)) = .ok [] := by decide +kernel
    have z2 : askO [[97]] (powO [97] (-60)) = .ok (repL 60 [65]) := by decide +kernel
    have z3 : askO [[97], [98]] (limO (red (commW [97] [98]))) = .ok [97, 98, 65, 66] := by decide +kernel
    refine w_O ⟨[], rfl, by decide, by simp, z1.symm⟩ fun H26 s26 => w_O ⟨_, _, rfl, by decide, by decide, z2.symm⟩ fun H27 s27 => w_O ⟨_, _, rfl, by decide, by decide, z3.symm⟩ fun H28 s28 => ?_
    have w28 := ((w25.same s26).same s27).same s28
    refine w_mkL (K := K) w28 (by simp) (.cons (.str _) (.cons (.str _) (.cons (.str _) .nil))) fun v8 I29 H29 w29 s29 d29 => ⟨by decide, by decide, by decide, ?_⟩
    refine w_mkL (K := K) w29 (by simp) (.cons (.str _) (.cons (.str _) (.cons (.str _) .nil))) fun v9 I30 H30 w30 s30 d30 => ?_
    exact w_eqS (dpm d29 (s30.trans w30.ok)) (dpm d30 w30.ok) (by decide +kernel) (q _)
theorem c_l_limits_so {Pt : Addr} (TB : LamX.TabB base mg T.e_l_limits_so Pt) (hq : TabNm.nm Pt = some (lamQ "_law_limits_so")) : Cal P w K mg base CX0 9 "_law_limits_so" T.a_l_limits_so T.d_l_limits_so [] sp_l_limits_so := ⟨ok_l_limits_so T TB hq, T.g_l_limits_so, T.F_l_limits_so.fn.kp, T.F_l_limits_so.fn.binds fun _ _ _ _ _ _ us hl => match us, hl with | [], _ => rfl⟩
theorem ok_law {Pt2 Pt : Addr} (TB2 : LamX.TabB base mg T.e_l_limits_so Pt2) (hq2 : TabNm.nm Pt2 = some (lamQ "_law_limits_so")) (TB : LamX.TabB base mg T.e_law Pt) (hq : TabNm.nm Pt = some (lamQ "law")) : FnOk P w K mg base CX0 10 T.a_law T.d_law ["_law_script"] (spLaw K) := by
  refine T.F_law.ok sc_law (fun vs H Q E h => ?_) (fun A outer s H vs Q E le hle hr h => ?_)
  · obtain ⟨a, ns, rfl, _⟩ := h
    rfl
  · obtain ⟨a, ns, rfl, hs, hl, ht, q⟩ := h
    refine ⟨_, (pss_cons (ps_set (i := 1) sc_law.nd rfl (Or.inl rfl) (pe_cal (c_l_bag T) (hr.mono (by decide)) (pa_cons (pv 0) pa_nil)))
      (pss_cons (ps_for PassesOwn.never rfl (pi_range1 (by rfl) T.z_range (pa_cons (pe_int) pa_nil)) (pg_name (i := 2) sc_law.nd rfl (Or.inl rfl)) (pss_cons (ps_set (i := 3) sc_law.nd rfl (Or.inl rfl) (pe_cal (c_l_any T) (hr.mono (by decide)) (pa_cons (pv 1) (pa_cons (pe_lst (pa_cons (pe_str) (pa_cons (pe_str) (pa_cons (pe_str) (pa_cons (pe_str) pa_nil))))) pa_nil))))
      (pss_cons (ps_asg (pe_tup (pa_cons (pe_cal (c_l_drawn_word T) (hr.mono (by decide)) (pa_cons (pv 1) (pa_cons (pe_int) (pa_cons (pv 3) pa_nil)))) (pa_cons (pe_cal (c_l_drawn_word T) (hr.mono (by decide)) (pa_cons (pv 1) (pa_cons (pe_int) (pa_cons (pv 3) pa_nil)))) (pa_cons (pe_cal (c_l_drawn_word T) (hr.mono (by decide)) (pa_cons (pv 1) (pa_cons (pe_int) (pa_cons (pe_str) pa_nil)))) pa_nil)))) (pg_tup (n := 3) rfl (pgs_cons (pg_name (i := 4) sc_law.nd rfl (Or.inr rfl)) (pgs_cons (pg_name (i := 5) sc_law.nd rfl (Or.inr rfl)) (pgs_cons (pg_name (i := 6) sc_law.nd rfl (Or.inr rfl)) pgs_nil)))))
      (pss_cons (ps_set (i := 7) sc_law.nd rfl (Or.inr rfl) (pe_cal (c_l_any T) (hr.mono (by decide)) (pa_cons (pv 1) (pa_cons (pe_lst (pa_cons (pe_op op_sub (pe_cal (c_l_draw T) (hr.mono (by decide)) (pa_cons (pv 1) (pa_cons (pe_int) pa_nil))) (pe_int)) (pa_cons (pe_int) (pa_cons (pe_int) (pa_cons (pe_un un_neg (pe_int)) (pa_cons (pe_int) pa_nil)))))) pa_nil))))
      (Evl.pss_cut (ps_if (pt_cmpR op_eq (pe_cal (c_l_draw T) (hr.mono (by decide)) (pa_cons (pv 1) (pa_cons (pe_int) pa_nil))) (pe_int) (nomark _)) (pss_one (ps_set (i := 4) sc_law.nd rfl (Or.inr rfl) (pe_op op_add_str (pe_op op_add_str (pe_slice (r := rSlS) sl_str (pv 5) po_none (po_some (pe_int))) (pe_slice (r := rSlS) sl_str (pv 4) po_none (po_some (pe_int)))) (pe_cal (c_l_inverse T) (hr.mono (by decide)) (pa_cons (pe_slice (r := rSlS) sl_str (pv 5) po_none (po_some (pe_int))) pa_nil))))) pss_nil)
      (Evl.pss_cut (ps_set (i := 8) sc_law.nd rfl (Or.inl rfl) (pe_ifExp (pt_cmpR op_gt (pv 7) (pe_int) (nomark _)) (pe_op op_mulSl (pv 4) (pv 7)) (pe_op op_mulSl (pe_cal (c_l_inverse T) (hr.mono (by decide)) (pa_cons (pv 4) pa_nil)) (pe_op op_sub (pe_int) (pv 7)))))
      (pss_cons (ps_if (pt_not (pt_val (pe_cal (c_l_like T 4) (hr.mono (by decide)) (pa_cons (pe_callL (E := fun _ _ _ _ => False) hle (fun B => c_l_try (base := B) T) (hr.mono (by decide)) (fun _ _ _ _ _ _ _ z => False.elim z) (pa_cons (pe_lamB (k := 5) (P := P) (w := w) (K := K) (mg := mg) (le := le) (q := lamQ "law") rfl rfl rfl rfl hle rfl TB rfl (show lscB nl_law [] _ = true by decide +kernel) (show lfrB (defScope s_law) _ = true by decide +kernel) rfl rfl (fun _ _ _ _ _ _ => rfl) (fun base cl dv c1 f A outer s H E hr => (pe_calS (c_power T) (L2N.takes_of rfl rfl rfl rfl) (hr.mono (by decide)) (pa_cons (pv 4) (pa_cons (pv 7) pa_nil))))) pa_nil)) (pa_cons (pe_cal (c_l_limited T) (hr.mono (by decide)) (pa_cons (pe_cal (c_l_reduced T) (hr.mono (by decide)) (pa_cons (pv 8) pa_nil)) pa_nil)) pa_nil))))) (pss_one (ps_ret (pe_bl))) pss_nil)
      (pss_cons (ps_set (i := 8) sc_law.nd rfl (Or.inl rfl) (pe_cal (c_l_reduced T) (hr.mono (by decide)) (pa_cons (pe_op op_add_str (pe_op op_add_str (pe_op op_add_str (pv 4) (pv 5)) (pe_cal (c_l_inverse T) (hr.mono (by decide)) (pa_cons (pv 4) pa_nil))) (pe_cal (c_l_inverse T) (hr.mono (by decide)) (pa_cons (pv 5) pa_nil))) pa_nil)))
      (pss_cons (ps_if (pt_not (pt_val (pe_cal (c_l_like T 4) (hr.mono (by decide)) (pa_cons (pe_callL (E := fun _ _ _ _ => False) hle (fun B => c_l_try (base := B) T) (hr.mono (by decide)) (fun _ _ _ _ _ _ _ z => False.elim z) (pa_cons (pe_lamB (k := 5) (P := P) (w := w) (K := K) (mg := mg) (le := le) (q := lamQ "law") rfl rfl rfl rfl hle rfl TB rfl (show lscB nl_law [] _ = true by decide +kernel) (show lfrB (defScope s_law) _ = true by decide +kernel) rfl rfl (fun _ _ _ _ _ _ => rfl) (fun base cl dv c1 f A outer s H E hr => (pe_calS (c_commutator T) (L2N.takes_of rfl rfl rfl rfl) (hr.mono (by decide)) (pa_cons (pv 4) (pa_cons (pv 5) pa_nil))))) pa_nil)) (pa_cons (pe_cal (c_l_limited T) (hr.mono (by decide)) (pa_cons (pv 8) pa_nil)) pa_nil))))) (pss_one (ps_ret (pe_bl))) pss_nil)
      (pss_cons (ps_set (i := 9) sc_law.nd rfl (Or.inl rfl) (pe_lst (pa_cons (pe_lamB (k := 5) (P := P) (w := w) (K := K) (mg := mg) (le := le) (q := lamQ "law") rfl rfl rfl rfl hle rfl TB rfl (show lscB nl_law [] _ = true by decide +kernel) (show lfrB (defScope s_law) _ = true by decide +kernel) rfl rfl (fun _ _ _ _ _ _ => rfl) (fun base cl dv c1 f A outer s H E hr => (pe_callR (c_joined T) (L2N.takes_of rfl rfl rfl rfl) (hr.mono (by decide)) (pa_cons (pv 4) pa_nil)))) (pa_cons (pe_lamD (k := 5) (y := "_law_a") (P := P) (w := w) (K := K) (mg := mg) (le := le) (q := lamQ "law") rfl rfl rfl rfl hle rfl TB rfl (show lscB nl_law ["_law_a"] _ = true by decide +kernel) (show lfrB (defScope s_law) _ = true by decide +kernel) rfl rfl (fun _ _ _ _ _ _ _ _ => ⟨_, rfl, rfl⟩) (fun base cl dv c1 f A outer s H E hr => (pe_callR (c_joined T) (L2N.takes_of rfl rfl rfl rfl) (hr.mono (by decide)) (pa_cons (pv 4) (pa_cons (pv 5) pa_nil))))) (pa_cons (pe_lamD (k := 5) (y := "_law_b") (P := P) (w := w) (K := K) (mg := mg) (le := le) (q := lamQ "law") rfl rfl rfl rfl hle rfl TB rfl (show lscB nl_law ["_law_b"] _ = true by decide +kernel) (show lfrB (defScope s_law) _ = true by decide +kernel) rfl rfl (fun _ _ _ _ _ _ _ _ => ⟨_, rfl, rfl⟩) (fun base cl dv c1 f A outer s H E hr => (pe_callR (c_joined T) (L2N.takes_of rfl rfl rfl rfl) (hr.mono (by decide)) (pa_cons (pv 4) (pa_cons (pe_cal (c_l_inverse T) (hr.mono (by decide)) (pa_cons (pv 4) pa_nil)) (pa_cons (pv 6) pa_nil)))))) pa_nil)))))
      (pss_cons (ps_expr (pe_bm PySem.F.plainAttrs_list PySem.F.slot_list_append PySem.F.type_list_append mt_append (pv 9) (pa_cons (pe_lamB (k := 5) (P := P) (w := w) (K := K) (mg := mg) (le := le) (q := lamQ "law") rfl rfl rfl rfl hle rfl TB rfl (show lscB nl_law [] _ = true by decide +kernel) (show lfrB (defScope s_law) _ = true by decide +kernel) rfl rfl (fun _ _ _ _ _ _ => rfl) (fun base cl dv c1 f A outer s H E hr => (pe_callR (c_joined T) (L2N.takes_of rfl rfl rfl rfl) (hr.mono (by decide)) (pa_cons (pe_op op_mulSl (pv 4) (pe_int)) (pa_cons (pe_op op_mulSl (pv 5) (pe_int)) (pa_cons (pv 6) (pa_cons (pv 5) pa_nil))))))) pa_nil)))
      (pss_cons (ps_set (i := 10) sc_law.nd rfl (Or.inl rfl) (pe_lst (pa_cons (pv 4) (pa_cons (pe_op op_add_str (pv 4) (pv 5)) (pa_cons (pv 6) (pa_cons (pe_op op_add_str (pe_op op_add_str (pe_op op_add_str (pe_op op_add_str (pe_op op_add_str (pv 4) (pv 4)) (pv 5)) (pv 5)) (pv 6)) (pv 5)) pa_nil))))))
      (pss_cons (ps_if (pt_not (pt_val (pe_cal (c_l_like T 4) (hr.mono (by decide)) (pa_cons (pe_callL (E := fun _ _ _ _ => False) hle (fun B => c_l_tries (base := B) T) (hr.mono (by decide)) (fun _ _ _ _ _ _ _ z => False.elim z) (pa_cons (pv 9) pa_nil)) (pa_cons (pe_lc (own := [("_law_word", 11)]) (g := gName 11) (tt := tYes) rfl sc_law.nd (pi_list (pv 10)) (blkOk_by (own := [("_law_word", 11)]) (N := nl_law) (sc := defScope s_law) (by decide +kernel)) (fun _ _ _ _ _ => (pg_name (i := 11) sc_law.nd rfl (Or.inl rfl))) (fun _ _ _ _ _ => pts_nil) (fun _ _ _ _ _ => (pe_cal (c_l_limited T) (hr.mono (by decide)) (pa_cons (pe_cal (c_l_reduced T) (hr.mono (by decide)) (pa_cons (pv 11) pa_nil)) pa_nil)))) pa_nil))))) (pss_one (ps_ret (pe_bl))) pss_nil)
      (pss_cons (ps_set (i := 12) sc_law.nd rfl (Or.inl rfl) (pe_op op_add (pe_int) (pe_cal (c_l_draw T) (hr.mono (by decide)) (pa_cons (pv 1) (pa_cons (pe_int) pa_nil)))))
      (pss_cons (ps_asg (pe_tup (pa_cons (pe_cal (c_l_draw T) (hr.mono (by decide)) (pa_cons (pv 1) (pa_cons (pv 12) pa_nil))) (pa_cons (pe_op op_mulSl (pe_str) (pe_int)) pa_nil))) (pg_tup (n := 2) rfl (pgs_cons (pg_name (i := 13) sc_law.nd rfl (Or.inl rfl)) (pgs_cons (pg_name (i := 14) sc_law.nd rfl (Or.inr rfl)) pgs_nil))))
      (pss_cons (ps_set (i := 14) sc_law.nd rfl (Or.inr rfl) (pe_op op_add_str (pe_op op_add_str (pe_slice (r := rSlS) sl_str (pv 14) po_none (po_some (pv 13))) (pe_cal (c_l_any T) (hr.mono (by decide)) (pa_cons (pv 1) (pa_cons (pe_lst (pa_cons (pe_str) (pa_cons (pe_str) (pa_cons (pe_str) pa_nil)))) pa_nil)))) (pe_slice (r := rSlS) sl_str (pv 14) (po_some (pe_op op_add (pv 13) (pe_int))) (po_some (pv 12)))))
      (pss_cons (ps_set (i := 9) sc_law.nd rfl (Or.inl rfl) (pe_lst (pa_cons (pe_lamB (k := 5) (P := P) (w := w) (K := K) (mg := mg) (le := le) (q := lamQ "law") rfl rfl rfl rfl hle rfl TB rfl (show lscB nl_law [] _ = true by decide +kernel) (show lfrB (defScope s_law) _ = true by decide +kernel) rfl rfl (fun _ _ _ _ _ _ => rfl) (fun base cl dv c1 f A outer s H E hr => (pe_calS (c_power T) (L2N.takes_of rfl rfl rfl rfl) (hr.mono (by decide)) (pa_cons (pv 14) (pa_cons (pv 7) pa_nil))))) (pa_cons (pe_lamD (k := 5) (y := "_law_a") (P := P) (w := w) (K := K) (mg := mg) (le := le) (q := lamQ "law") rfl rfl rfl rfl hle rfl TB rfl (show lscB nl_law ["_law_a"] _ = true by decide +kernel) (show lfrB (defScope s_law) _ = true by decide +kernel) rfl rfl (fun _ _ _ _ _ _ _ _ => ⟨_, rfl, rfl⟩) (fun base cl dv c1 f A outer s H E hr => (pe_calS (c_commutator T) (L2N.takes_of rfl rfl rfl rfl) (hr.mono (by decide)) (pa_cons (pv 4) (pa_cons (pv 14) pa_nil))))) (pa_cons (pe_lamD (k := 5) (y := "_law_b") (P := P) (w := w) (K := K) (mg := mg) (le := le) (q := lamQ "law") rfl rfl rfl rfl hle rfl TB rfl (show lscB nl_law ["_law_b"] _ = true by decide +kernel) (show lfrB (defScope s_law) _ = true by decide +kernel) rfl rfl (fun _ _ _ _ _ _ _ _ => ⟨_, rfl, rfl⟩) (fun base cl dv c1 f A outer s H E hr => (pe_callR (c_joined T) (L2N.takes_of rfl rfl rfl rfl) (hr.mono (by decide)) (pa_cons (pv 4) (pa_cons (pv 14) (pa_cons (pe_str) pa_nil)))))) pa_nil)))))
      (pss_cons (ps_set (i := 9) sc_law.nd rfl (Or.inl rfl) (pe_op op_cat (pv 9) (pe_lst (pa_cons (pe_lamB (k := 5) (P := P) (w := w) (K := K) (mg := mg) (le := le) (q := lamQ "law") rfl rfl rfl rfl hle rfl TB rfl (show lscB nl_law [] _ = true by decide +kernel) (show lfrB (defScope s_law) _ = true by decide +kernel) rfl rfl (fun _ _ _ _ _ _ => rfl) (fun base cl dv c1 f A outer s H E hr => (pe_calS (c_commutator T) (L2N.takes_of rfl rfl rfl rfl) (hr.mono (by decide)) (pa_cons (pe_op op_mulSl (pe_str) (pe_int)) (pa_cons (pv 14) pa_nil))))) (pa_cons (pe_lamD (k := 5) (y := "_law_a") (P := P) (w := w) (K := K) (mg := mg) (le := le) (q := lamQ "law") rfl rfl rfl rfl hle rfl TB rfl (show lscB nl_law ["_law_a"] _ = true by decide +kernel) (show lfrB (defScope s_law) _ = true by decide +kernel) rfl rfl (fun _ _ _ _ _ _ _ _ => ⟨_, rfl, rfl⟩) (fun base cl dv c1 f A outer s H E hr => (pe_calS (c_commutator T) (L2N.takes_of rfl rfl rfl rfl) (hr.mono (by decide)) (pa_cons (pv 14) (pa_cons (pe_op op_mulSl (pe_str) (pe_int)) pa_nil))))) pa_nil)))))
      (pss_cons (ps_set (i := 15) sc_law.nd rfl (Or.inl rfl) (pe_op op_cat (pe_op op_rep (pe_lst (pa_cons (pe_tup (pa_cons (pe_str) (pa_cons (pv 13) pa_nil))) pa_nil)) (pe_int)) (pe_lst (pa_cons (pe_tup (pa_cons (pe_str) (pa_cons (pe_int) pa_nil))) (pa_cons (pe_tup (pa_cons (pe_str) (pa_cons (pv 13) pa_nil))) pa_nil)))))
      (pss_one (ps_if (pt_cmpR (r := rNeD K) (op_neD hr.units) (pe_callL (E := fun _ _ _ _ => False) hle (fun B => c_l_tries (base := B) T) (hr.mono (by decide)) (fun _ _ _ _ _ _ _ z => False.elim z) (pa_cons (pv 9) pa_nil)) (pv 15) (nomark _)) (pss_one (ps_ret (pe_bl))) pss_nil)))))))))))))))))))))
      (pss_one (ps_ret (pe_cal0 (c_l_limits_so T TB2 hq2) (hr.mono (by decide))))))), ?_⟩
    wtm_at "E"
    refine ⟨a, ns, rfl, hs, hl, ht, fun b I0 H0 _ w0 nb => ?_⟩
    wtm_at "k"
    refine ⟨by decide, by decide, w_forR (fun i σ H' => ∃ I, W b I H' ∧ ∃ v2 v3 v4 v5 v6 v7 v8 v9 v10 v11 v12 v13 v14 v15 : Option V, σ = [some (.ref a), some (.ref b), v2, v3, v4, v5, v6, v7, v8, v9, v10, v11, v12, v13, v14, v15]) ⟨I0, w0, _, _, _, _, _, _, _, _, _, _, _, _, _, _, rfl⟩ ?_ ?_⟩
    · rintro i σ H1 hi ⟨I1, w1, u2, u3, u4, u5, u6, u7, u8, u9, u10, u11, u12, u13, u14, u15, rfl⟩ N hN
      wtm_at "el"
      refine w_anyMk w1 (by decide) (by decide) fun x hx I2 H2 g2 => ?_
      obtain ⟨z, rfl, hz0, hz1, hzL⟩ : ∃ z : List Nat, x = .str (Sl z) ∧ 0 < z.length ∧ z.length ≤ 1000 ∧ AL z := by
        simp only [List.mem_cons, List.not_mem_nil, or_false] at hx
        rcases hx with rfl | rfl | rfl | rfl <;> exact ⟨_, rfl, by decide, by decide, bad_none.mp (by decide)⟩
      wtm_at "kl"
      refine ⟨b, I2, 14, z, rfl, g2.w, by decide, hz0, hz1, fun one0 I3 H3 g3 hm3 hl3 => ?_⟩
      have al0 : AL one0 := fun c hc => hzL c (hm3 c hc)
      refine ⟨b, I3, 14, z, rfl, g3.w, by decide, hz0, hz1, fun oth I4 H4 g4 hm4 hl4 => ?_⟩
      have alo : AL oth := fun c hc => hzL c (hm4 c hc)
      refine ⟨b, I4, 14, _, rfl, g4.w, by decide, by decide, by decide, fun thd I5 H5 g5 hm5 hl5 => ?_⟩
      have alt : AL thd := fun c hc => (show ∀ c ∈ [97, 98, 67, 100], isL c = true by decide) c (hm5 c hc)
      refine w_tupR (by simp) fun p hp => ?_
      have w6 := g5.w.newM (o := .tup [V.str (Sl one0), V.str (Sl oth), V.str (Sl thd)]) hp
      wtm_at "el"
      refine ⟨_, SqT.of upd_same, rfl, ?_⟩
      wtm_at "el"
      wtm_at "kl"
      refine w_drawG (m := 25) w6 (by decide) (by decide) fun n H7 hn g7 => ?_
      wtm_at "el"
      refine w_anyMk g7.w (by simp) (by simp) fun x hx I8 H8 g8 => ?_
      obtain ⟨n, rfl, hn1, hn2⟩ : ∃ n : Int, x = .int n ∧ -12 ≤ n ∧ n ≤ 12 := by
        simp only [List.mem_cons, List.not_mem_nil, or_false] at hx
        rcases hx with rfl | rfl | rfl | rfl | rfl <;> exact ⟨_, rfl, by omega, by omega⟩
      refine w_kt (w_cut (fun σ' H' => ∃ one : List Nat, AL one ∧ one.length ≤ 17 ∧ ∃ I, W b I H' ∧ σ' = [some (.ref a), some (.ref b), some (.int i), some (.str (Sl z)), some (.str (Sl one)), some (.str (Sl oth)), some (.str (Sl thd)), some (.int n), u8, u9, u10, u11, u12, u13, u14, u15]) (fun M hM => ?_) ?_)
      · wtm_at "el"
        refine w_drawG (m := 2) g8.w (by decide) (by decide) fun k H9 hk g9 => ?_
        wtm_at "el"
        refine ite2 (fun h0 => ?_) (fun h0 => ?_)
        · have e6 : (6 : Int) = ((6 : Nat) : Int) := rfl
          have e5 : (5 : Int) = ((5 : Nat) : Int) := rfl
          rw [e6, e5, cutL_to, cutL_to]
          have ht6 : (oth.take 6).length ≤ 6 := by rw [List.length_take]; omega
          have ht5 : (one0.take 5).length ≤ 5 := by rw [List.length_take]; omega
          refine ⟨szle (by omega), szle (by omega), szle (by omega), szle (by omega), _, rfl, by omega, alo.take 6, fun H10 s10 => ?_⟩
          wtm_at "el"
          refine ⟨szle (by rw [List.length_append, inv_len]; omega), hM _ _ ⟨_, ((alo.take 6).app (al0.take 5)).app (alo.take 6).inv, by rw [List.length_append, List.length_append, inv_len]; omega, _, g9.w.same s10, rfl⟩⟩
        · exact hM _ _ ⟨one0, al0, by omega, _, g9.w, rfl⟩
      · rintro σ' H9 ⟨one, al1, hl1, I9, w9, rfl⟩
        refine w_cut (fun σ' H' => ∃ I, W b I H' ∧ σ' = [some (.ref a), some (.ref b), some (.int i), some (.str (Sl z)), some (.str (Sl one)), some (.str (Sl oth)), some (.str (Sl thd)), some (.int n), some (.str (Sl (powW one n))), u9, u10, u11, u12, u13, u14, u15]) (fun M hM => ?_) ?_
        · wtm_at "el"
          refine ite2 (fun h0 => ?_) (fun h0 => ?_)
          · rw [← powW_pos h0]
            exact ⟨by omega, by omega, Nat.le_trans (Nat.mul_le_mul hl1 (show n.toNat ≤ 12 by omega)) (by decide), hM _ _ ⟨_, w9, rfl⟩⟩
          · refine ⟨one, rfl, by omega, al1, fun H10 s10 => ?_⟩
            wtm_at "el"
            rw [← powW_neg h0]
            exact ⟨by omega, by omega, Nat.le_trans (Nat.mul_le_mul (show (inv one).length ≤ 17 by rw [inv_len]; exact hl1) (show (0 - n).toNat ≤ 12 by omega)) (by decide), hM _ _ ⟨_, w9.same s10, rfl⟩⟩
        · rintro σ' H10 ⟨I10, w10, rfl⟩
          wtm_at "el"
          have hpw : (powW one n).length ≤ 204 := by
            unfold powW
            rw [repL_len]
            refine Nat.le_trans (Nat.mul_le_mul (show n.natAbs ≤ 12 by omega) (show (if 0 ≤ n then one else inv one).length ≤ 17 by split <;> (try rw [inv_len]) <;> exact hl1)) (by decide)
          have alp := al1.powW n
          refine w_lam w10 hq fun f1 os1 I11 H11 w11 s11 o1 T1 => fun B ce => ?_
          have r1 := thr_G (o := limO (red (powW one n))) T1 ce o1 (fun E H Q h => by
            wtm_at "el"
            exact h _ _ (fun _ _ e => e) ⟨_, _, rfl, by omega, by omega, (askO1 (wErr_ok al1 (by omega))).symm⟩)
          refine w_try w11 r1 fun v1 I12 H12 w12 s12 d12 => ⟨_, rfl, by omega, alp, fun H13 s13 => ?_⟩
          have hrp := red_len (powW one n)
          refine ⟨b, I12, _, rfl, w12.same s13, by omega, fun v2 I14 H14 g14 d14 => ?_⟩
          have w14 := g14.w
          have s14 := g14.im
          refine w_like w14 _ (dpm d12 s14) d14 (lkd_out _) fun H15 w15 s15 => ⟨true, rfl, ?_⟩
          rw [if_neg (by decide)]
          wtm_at "kl"
          refine ⟨szle (by omega), one, rfl, by omega, al1, fun H16 s16 => ?_⟩
          wtm_at "el"
          refine ⟨szle (by rw [List.length_append, inv_len]; omega), oth, rfl, by omega, alo, fun H17 s17 => ?_⟩
          wtm_at "el"
          have hcl : (one ++ oth ++ inv one ++ inv oth).length ≤ 100 := by simp only [List.length_append, inv_len]; omega
          refine ⟨szle (by rw [← List.length_append]; omega), _, rfl, by omega, ((al1.app alo).app al1.inv).app alo.inv, fun H18 s18 => ?_⟩
          have w18 := ((w15.same s16).same s17).same s18
          wtm_at "kl"
          refine w_lam w18 hq fun f2 os2 I19 H19 w19 s19 o2 T2 => fun B ce => ?_
          have r2 := thr_G (o := limO (red (commW one oth))) T2 ce o2 (fun E H Q h => by
            wtm_at "el"
            exact h _ _ (fun _ _ e => e) ⟨_, _, rfl, by omega, by omega, (askO2 (wErr_ok al1 (by omega)) (wErr_ok alo (by omega))).symm⟩)
          have hrc := red_len (one ++ oth ++ inv one ++ inv oth)
          refine w_try w19 r2 fun v3 I20 H20 w20 s20 d20 => ⟨b, I20, _, rfl, w20, by omega, fun v4 I21 H21 g21 d21 => ?_⟩
          have w21 := g21.w
          have s21 := g21.im
          refine w_like w21 _ (dpm d20 s21) d21 (lkd_out _) fun H22 w22 s22 => ⟨true, rfl, ?_⟩
          rw [if_neg (by decide)]
          wtm_at "kl"
          refine w_lam w22 hq fun f3 os3 I23 H23 w23 s23 o3 T3 => w_lam w23 hq fun f4 os4 I24 H24 w24 s24 o4 T4 => w_lam w24 hq fun f5 os5 I25 H25 w25 s25 o5 T5 => ?_
          refine w_lstR (by simp) fun L1 hL1 => ?_
          have w26 := w25.newM (o := .lst [V.ref f3, V.ref f4, V.ref f5]) hL1
          have m26 := Mu.new (xs := [V.ref f3, V.ref f4, V.ref f5]) w25 hL1
          wtm_at "kl"
          refine ⟨.inl ⟨rfl, _, SqL.of upd_same⟩, w_lamG w26 hq fun f6 os6 I27 H27 g27 o6 T6 => ?_⟩
          have m27 := m26.go g27
          have ⟨g28, m28⟩ := ((Go.newM w25 hL1).trans g27).setM (ys := [V.ref f3, V.ref f4, V.ref f5] ++ [V.ref f6]) hL1 m27
          have g29 := Mu.fix hL1 g28 m28
          have s27 := g27.im
          have s29 : Same I27 (L2.upd I27 L1 (.lst ([V.ref f3, V.ref f4, V.ref f5] ++ [V.ref f6]))) := fun a u e => by
            have : a ≠ L1 := fun z => by rw [z, m28.nI] at e; cases e
            rw [upd_ne this]; exact e
          refine ⟨_, m27.at', by rw [sizeLine_eq]; simp, ?_⟩
          have wb29 := g29.w
          have hL29 : (L2.upd I27 L1 (.lst ([V.ref f3, V.ref f4, V.ref f5] ++ [V.ref f6]))) L1 = some (.lst (([f3, f4, f5, f6] : List Addr).map V.ref)) := upd_same
          generalize L2.upd I27 L1 (.lst ([V.ref f3, V.ref f4, V.ref f5] ++ [V.ref f6])) = I29 at s29 wb29 hL29 g29
          generalize L2.upd H27 L1 _ = H29 at wb29
          wtm_at "kl"
          have hA : (one ++ one ++ oth ++ oth ++ thd ++ oth).length ≤ 100 := by simp only [List.length_append]; omega
          refine ⟨szle (by omega), szle (by omega), szle (by simp only [List.length_append]; omega), szle (by simp only [List.length_append]; omega), szle (by simp only [List.length_append]; omega), szle (by simp only [List.length_append]; omega), ?_⟩
          refine w_mkL2 (K := K) wb29 (by simp) (dpStrs [one, one ++ oth, thd, one ++ one ++ oth ++ oth ++ thd ++ oth]) fun p2 I30 H30 w30 s30 h30 _ => ?_
          wtm_at "kl"
          refine fun B ce => ?_
          have tw : wErr thd = none := wErr_ok alt (by omega)
          have ow : wErr oth = none := wErr_ok alo (by omega)
          have nw : wErr one = none := wErr_ok al1 (by omega)
          have iw : wErr (inv one) = none := wErr_ok al1.inv (by rw [inv_len]; omega)
          have al2 : AL (repL 2 one) := al1.rep 2
          have al3 : AL (repL 2 oth) := alo.rep 2
          have l2 : (repL 2 one).length = 2 * one.length := repL_len 2 one
          have l3 : (repL 2 oth).length = 2 * oth.length := repL_len 2 oth
          have w2e : wErr (repL 2 one) = none := wErr_ok al2 (by omega)
          have w3e : wErr (repL 2 oth) = none := wErr_ok al3 (by omega)
          have t1 := thr_G (o := limO (red one)) T3 ce (fun p hp => s30 _ _ (s29 _ _ (s27 _ _ (s25 _ _ (s24 _ _ (o3 p hp)))))) (fun E H Q h => by
            wtm_at "el"
            exact h _ _ (fun _ _ e => e) ⟨[one], rfl, by simp, by simp; omega, by rw [askO1 nw]; simp⟩)
          have t2 := thr_G (o := limO (red (one ++ oth))) T4 ce (fun p hp => s30 _ _ (s29 _ _ (s27 _ _ (s25 _ _ (o4 p hp))))) (fun E H Q h => by
            wtm_at "el"
            exact h _ _ (fun _ _ e => e) ⟨[one, oth], rfl, by simp, by simp; omega, by rw [askO2 nw ow]; simp⟩)
          have t3 := thr_G (o := limO (red thd)) T5 ce (fun p hp => s30 _ _ (s29 _ _ (s27 _ _ (o5 p hp)))) (fun E H Q h => by
            wtm_at "el"
            refine ⟨one, rfl, by omega, al1, fun H' s' => h _ _ s' ⟨[one, inv one, thd], rfl, by simp, by simp [inv_len]; omega, ?_⟩⟩
            rw [askO_all (by simp [nw, iw, tw])]
            have := red_ins [] one thd
            simp only [List.nil_append] at this
            simp only [List.flatten_cons, List.flatten_nil, List.append_nil]
            rw [← List.append_assoc, this])
          have t4 := thr_G (o := limO (red (one ++ one ++ oth ++ oth ++ thd ++ oth))) T6 ce (fun p hp => s30 _ _ (s29 _ _ (o6 p hp))) (fun E H Q h => by
            wtm_at "el"
            refine ⟨by decide, by decide, by omega, by decide, by decide, by omega, h _ _ (fun _ _ e => e) ⟨[repL 2 one, repL 2 oth, thd, oth], rfl, by simp, by simp [l2, l3]; omega, ?_⟩⟩
            rw [askO_all (by simp [w2e, w3e, tw, ow])]
            have e1 : repL 2 one = one ++ one := by rw [repL_succ, repL_one]
            have e2 : repL 2 oth = oth ++ oth := by rw [repL_succ, repL_one]
            rw [e1, e2]
            simp)
          refine w_tries (fs := [f3, f4, f5, f6]) w30 (s30 _ _ hL29) (by simp) (thrs_cons t1 (thrs_cons t2 (thrs_cons t3 (thrs_cons t4 thrs_nil)))) fun v5 I31 H31 w31 s31 d31 => ?_
          have h31 := s31 _ _ h30
          refine ⟨⟨_, SqL.of (w31.ok _ _ h31)⟩, fun D hD => w_lcWL (K := K) h31 w31 hD (by simp) (fun _ => rfl) (fun i => (limO (red ([one, one ++ oth, thd, one ++ one ++ oth ++ oth ++ thd ++ oth][i]?.getD []))).out.data) (fun i x J1 G1 Q1 hx gg hq1 => ?_) fun ys I32 H32 g32 hys dys => ?_⟩
          · have : ∃ l, x = V.str (Sl l) ∧ AL l ∧ l.length ≤ 100 ∧ [one, one ++ oth, thd, one ++ one ++ oth ++ oth ++ thd ++ oth][i]?.getD [] = l := by
              match i, hx with
              | 0, hx => cases hx; exact ⟨_, rfl, al1, by omega, rfl⟩
              | 1, hx => cases hx; exact ⟨_, rfl, al1.app alo, by rw [List.length_append]; omega, rfl⟩
              | 2, hx => cases hx; exact ⟨_, rfl, alt, by omega, rfl⟩
              | 3, hx => cases hx; exact ⟨_, rfl, ((((al1.app al1).app alo).app alo).app alt).app alo, hA, rfl⟩
              | n + 4, hx => simp at hx
            obtain ⟨l, rfl, hal, hll, he⟩ := this
            wtm_at "el"
            rw [he] at hq1
            have hrl := red_len l
            exact ⟨l, rfl, by omega, hal, fun H' s' => ⟨b, J1, red l, rfl, gg.w.same s', by omega, fun v J2 G2 g2 d2 => hq1 v J2 G2 ((Go.same gg.w s').trans g2) d2⟩⟩
          · have d32 : Dp K I32 (.ref D) (.list [(limO (red one)).out.data, (limO (red (one ++ oth))).out.data, (limO (red thd)).out.data, (limO (red (one ++ one ++ oth ++ oth ++ thd ++ oth))).out.data]) := .lst (SqL.of hys) dys
            refine w_like g32.w _ (dpm d31 g32.im) d32 (by
              have h : ∀ o : WO, lkd 3 o.out.data = true := fun o => by cases o <;> rfl
              show (decide _ && (lkd 3 _ && (lkd 3 _ && (lkd 3 _ && (lkd 3 _ && true))))) = true
              rw [h, h, h, h]
              rfl) fun H33 w33 s33 => ⟨true, rfl, ?_⟩
            rw [if_neg (by decide)]
            wtm_at "kl"
            refine w_drawG (m := 59) w33 (by decide) (by decide) fun m H34 hm g34 => ?_
            have em : (1 : Int) + (m : Nat) = ((m + 1 : Nat) : Int) := by omega
            wtm_at "e"
            rw [em]
            wtm_at "kl"
            refine w_drawG (m := m + 1) g34.w (by omega) (by omega) fun k H35 hk g35 => ?_
            refine ⟨by decide, by decide, by decide, w_tupR (by simp) fun p3 hp3 => ?_⟩
            have w36 := g35.w.newM (o := .tup [V.int k, V.str (Sl (repL 30 [97, 98]))]) hp3
            wtm_at "el"
            refine ⟨_, SqT.of upd_same, rfl, ?_⟩
            wtm_at "el"
            wtm_at "kl"
            have ls0 : (repL 30 [97, 98]).length = 60 := repL_len 30 _
            have als : AL (repL 30 [97, 98]) := AL.rep (bad_none.mp (by decide)) 30
            generalize repL 30 [97, 98] = s0 at ls0 als w36 ⊢
            refine ⟨szle (by omega), w_anyMk w36 (by decide) (by decide) fun x hx I37 H37 g37 => ?_⟩
            obtain ⟨c, rfl, hc⟩ : ∃ c : Nat, x = .str (Sl [c]) ∧ isL c = false := by
              simp only [List.mem_cons, List.not_mem_nil, or_false] at hx
              rcases hx with rfl | rfl | rfl <;> exact ⟨_, rfl, by decide⟩
            have ek : (k : Int) + 1 = ((k + 1 : Nat) : Int) := by omega
            rw [ek]
            wtm_at "el"
            have hol : (s0.take k ++ [c] ++ (s0.drop (k + 1)).take (m + 1 - (k + 1))).length ≤ 200 := by
              simp only [List.length_append, List.length_take, List.length_drop, List.length_cons, List.length_nil]
              omega
            refine ⟨szle (by simp only [List.length_take]; omega), szle (by omega), szle (by rw [← List.length_append]; omega), ?_⟩
            have hob : bad (s0.take k ++ [c] ++ (s0.drop (k + 1)).take (m + 1 - (k + 1))) = some k := by
              have := bad_app (b := (s0.drop (k + 1)).take (m + 1 - (k + 1))) (als.take k) hc
              rw [List.append_assoc, List.singleton_append, this, List.length_take, Nat.min_eq_left (by omega)]
            generalize s0.take k ++ [c] ++ (s0.drop (k + 1)).take (m + 1 - (k + 1)) = odd at hol hob
            wtm_at "kl"
            refine w_lam g37.w hq fun f7 os7 I38 H38 w38 s38 o7 T7 => w_lam w38 hq fun f8 os8 I39 H39 w39 s39 o8 T8 => w_lam w39 hq fun f9 os9 I40 H40 w40 s40 o9 T9 => ?_
            refine w_lstW w40 (by simp) fun p4 I41 H41 w41 s41 h41 => ?_
            wtm_at "kl"
            refine w_lam w41 hq fun f10 os10 I42 H42 w42 s42 o10 T10 => w_lam w42 hq fun f11 os11 I43 H43 w43 s43 o11 T11 => ?_
            refine w_lstW w43 (by simp) fun p5 I44 H44 w44 s44 h44 => ?_
            refine w_catR w44 ((s42.trans (s43.trans s44)) _ _ h41) h44 (by simp) fun p6 I45 H45 w45 s45 h45 => ?_
            wtm_at "kl"
            refine w_mkT (K := K) w45 (by simp) (.cons (.str _) (.cons (.int _) .nil)) fun vt I46 H46 w46 s46 dt => ?_
            refine w_mkL2 (K := K) w46 (by simp) (.cons dt .nil) fun p7 I47 H47 w47 s47 h47 _ => ?_
            refine w_rep (K := K) w47 h47 (.cons (dpm dt s47) .nil) (by decide) (by simp) (by decide) fun r I48 H48 w48 s48 hr _ => ?_
            have hr : I48 r = some (.lst [vt, vt, vt]) := hr
            refine w_mkT (K := K) w48 (by simp) (.cons (.str _) (.cons (.int _) .nil)) fun vt2 I49 H49 w49 s49 dt2 => ?_
            refine w_mkT (K := K) w49 (by simp) (.cons (.str _) (.cons (.int _) .nil)) fun vt3 I50 H50 w50 s50 dt3 => ?_
            refine w_mkL2 (K := K) w50 (by simp) (.cons (dpm dt2 s50) (.cons dt3 .nil)) fun p8 I51 H51 w51 s51 h51 _ => ?_
            have sV := s47.trans (s48.trans (s49.trans (s50.trans s51)))
            refine w_catD (K := K) w51 ((s49.trans (s50.trans s51)) _ _ hr) h51 (by simp) (.cons (dpm dt sV) (.cons (dpm dt sV) (.cons (dpm dt sV) .nil))) (.cons (dpm dt2 (s50.trans s51)) (.cons (dpm dt3 s51) .nil)) fun p9 I52 H52 w52 s52 h52 d52 => ?_
            wtm_at "kl"
            refine fun B ce => ?_
            have sW : Same I45 I52 := s46.trans (sV.trans s52)
            have sX : Same I41 I52 := s42.trans (s43.trans (s44.trans (s45.trans sW)))
            have we : wErr odd = some (("InvalidWord" : Str), (k : Int)) := wErr_bad hob
            have wl : wErr (repL 61 [97]) = some (("TooLong" : Str), (60 : Int)) := wErr_long (AL.rep (bad_none.mp (by decide)) 61) (by rw [repL_len]; decide)
            have t7 := thr_G (o := .err "InvalidWord" (k : Int)) T7 ce (fun p hp => sX _ _ (s41 _ _ (s40 _ _ (s39 _ _ (o7 p hp))))) (fun E H Q h => by
              wtm_at "el"
              exact h _ _ (fun _ _ e => e) ⟨_, _, rfl, by omega, by omega, (askO_err we).symm⟩)
            have t8 := thr_G (o := .err "InvalidWord" (k : Int)) T8 ce (fun p hp => sX _ _ (s41 _ _ (s40 _ _ (o8 p hp)))) (fun E H Q h => by
              wtm_at "el"
              exact h _ _ (fun _ _ e => e) ⟨_, _, rfl, by omega, by omega, ((askO_ok nw).trans (askO_err we)).symm⟩)
            have t9 := thr_G (o := .err "InvalidWord" (k : Int)) T9 ce (fun p hp => sX _ _ (s41 _ _ (o9 p hp))) (fun E H Q h => by
              wtm_at "el"
              exact h _ _ (fun _ _ e => e) ⟨[one, odd, [63]], rfl, by simp, by simp; omega, ((askO_ok nw).trans (askO_err we)).symm⟩)
            have t10 := thr_G (o := .err "TooLong" 60) T10 ce (fun p hp => (s44.trans (s45.trans sW)) _ _ (s43 _ _ (o10 p hp))) (fun E H Q h => by
              wtm_at "el"
              exact ⟨by decide, by decide, by decide, h _ _ (fun _ _ e => e) ⟨_, _, rfl, by rw [repL_len]; decide, by omega, (askO_err wl).symm⟩⟩)
            have t11 := thr_G (o := .err "InvalidWord" (k : Int)) T11 ce (fun p hp => (s44.trans (s45.trans sW)) _ _ (o11 p hp)) (fun E H Q h => by
              wtm_at "el"
              exact ⟨by decide, by decide, by decide, h _ _ (fun _ _ e => e) ⟨_, _, rfl, by omega, by rw [repL_len]; decide, (askO_err we).symm⟩⟩)
            refine w_tries (fs := [f7, f8, f9, f10, f11]) w52 (sW _ _ h45) (by simp) (thrs_cons t7 (thrs_cons t8 (thrs_cons t9 (thrs_cons t10 (thrs_cons t11 thrs_nil))))) fun v6 I53 H53 w53 s53 d53 => ?_
            refine w_neS (dpm d53 w53.ok) (dpm d52 (s53.trans w53.ok)) (by simp [WO.out, Out.data, SeqAt.shaped, PyData.canLay0, PyData.canLayAll0, PyData.depth, PyData.depthAll, so_InvalidWord, so_TooLong]) ?_
            wtm_at "el"
            exact hN _ _ ⟨_, w53, _, _, _, _, _, _, _, _, _, _, _, _, _, _, rfl⟩
    · rintro σ H1 ⟨I1, w1, u2, u3, u4, u5, u6, u7, u8, u9, u10, u11, u12, u13, u14, u15, rfl⟩
      wtm_at "kl"
      exact ⟨b, I1, rfl, w1, q⟩
end
end G218
namespace G218
open PySem L2 G
abbrev ei_InvalidWord : Stmt := inClass (top 2) 0
theorem eB_InvalidWord : SupB (defBody ei_InvalidWord) "InvalidWord" "position" := supB_of rfl ⟨_, fun _ => rfl⟩ (fun _ => rfl) (fun _ => rfl) (fun _ => rfl)
abbrev ei_TooLong : Stmt := inClass (top 3) 0
theorem eB_TooLong : SupB (defBody ei_TooLong) "TooLong" "limit" := supB_of rfl ⟨_, fun _ => rfl⟩ (fun _ => rfl) (fun _ => rfl) (fun _ => rfl)

def mkTx {l : PySem.W.OpenLaw} {w : World} {K : PySem.W.Frag} {h : Heap} {mg : Str → Option Value} (X : K.In h) (G : h.Ns mainGlobals mg)
    {f1 : Addr} {od1 an1 : Option Addr} {sl1 : Array (Option Value)} {oc1 kV1 dc1 pm1 cd1 ct1 : Value}
    {f2 : Addr} {od2 an2 : Option Addr} {sl2 : Array (Option Value)} {oc2 kV2 dc2 pm2 cd2 ct2 : Value}
    {f3 : Addr} {od3 an3 : Option Addr} {sl3 : Array (Option Value)} {oc3 kV3 dc3 pm3 cd3 ct3 : Value}
    {f4 : Addr} {od4 an4 : Option Addr} {sl4 : Array (Option Value)} {oc4 kV4 dc4 pm4 cd4 ct4 : Value}
    {f5 : Addr} {od5 an5 : Option Addr} {sl5 : Array (Option Value)} {oc5 kV5 dc5 pm5 cd5 ct5 : Value}
    {f6 : Addr} {od6 an6 : Option Addr} {sl6 : Array (Option Value)} {oc6 kV6 dc6 pm6 cd6 ct6 : Value}
    {f7 : Addr} {od7 an7 : Option Addr} {sl7 : Array (Option Value)} {oc7 kV7 dc7 pm7 cd7 ct7 : Value}
    {f8 : Addr} {od8 an8 : Option Addr} {sl8 : Array (Option Value)} {oc8 kV8 dc8 pm8 cd8 ct8 : Value}
    {f9 : Addr} {od9 an9 : Option Addr} {sl9 : Array (Option Value)} {oc9 kV9 dc9 pm9 cd9 ct9 : Value}
    {f10 : Addr} {od10 an10 : Option Addr} {sl10 : Array (Option Value)} {oc10 kV10 dc10 pm10 cd10 ct10 : Value}
    {f11 : Addr} {od11 an11 : Option Addr} {sl11 : Array (Option Value)} {oc11 kV11 dc11 pm11 cd11 ct11 : Value}
    {f12 : Addr} {od12 an12 : Option Addr} {sl12 : Array (Option Value)} {oc12 kV12 dc12 pm12 cd12 ct12 : Value}
    {f13 : Addr} {od13 an13 : Option Addr} {sl13 : Array (Option Value)} {oc13 kV13 dc13 pm13 cd13 ct13 : Value}
    {f14 : Addr} {od14 an14 : Option Addr} {sl14 : Array (Option Value)} {oc14 kV14 dc14 pm14 cd14 ct14 : Value}
    {f15 : Addr} {od15 an15 : Option Addr} {sl15 : Array (Option Value)} {oc15 kV15 dc15 pm15 cd15 ct15 : Value}
    {f16 : Addr} {od16 an16 : Option Addr} {sl16 : Array (Option Value)} {oc16 kV16 dc16 pm16 cd16 ct16 : Value}
    {f17 : Addr} {od17 an17 : Option Addr} {sl17 : Array (Option Value)} {oc17 kV17 dc17 pm17 cd17 ct17 : Value}
    {f18 : Addr} {od18 an18 : Option Addr} {sl18 : Array (Option Value)} {oc18 kV18 dc18 pm18 cd18 ct18 : Value}
    {f19 : Addr} {od19 an19 : Option Addr} {sl19 : Array (Option Value)} {oc19 kV19 dc19 pm19 cd19 ct19 : Value}
    {f20 : Addr} {od20 an20 : Option Addr} {sl20 : Array (Option Value)} {oc20 kV20 dc20 pm20 cd20 ct20 : Value}
    {f21 : Addr} {od21 an21 : Option Addr} {sl21 : Array (Option Value)} {oc21 kV21 dc21 pm21 cd21 ct21 : Value}
    {f22 : Addr} {od22 an22 : Option Addr} {sl22 : Array (Option Value)} {oc22 kV22 dc22 pm22 cd22 ct22 : Value}
    {f23 : Addr} {od23 an23 : Option Addr} {sl23 : Array (Option Value)} {oc23 kV23 dc23 pm23 ct23 : Value}
    {ca23 Pt23 : Addr} {ce23 : Value} {cf23 : Option Addr} {cv23 : Array Value} {cg23 : Array (Option Value)}
    {f24 : Addr} {od24 an24 : Option Addr} {sl24 : Array (Option Value)} {oc24 kV24 dc24 pm24 ct24 : Value}
    {ca24 Pt24 : Addr} {ce24 : Value} {cf24 : Option Addr} {cv24 : Array Value} {cg24 : Array (Option Value)}
    {qt1 : Tok}
    {qt2 : Tok}
    {q3 : Addr} {qe3 : Array DictEntry} {qn3 : Nat} {qt3_0 : Tok} {qt3_1 : Tok} {qt3_2 : Tok} {qt3_3 : Tok} {qt3_4 : Tok} {qt3_5 : Tok} {qt3_6 : Tok} {qt3_7 : Tok}
    {C1 : Addr}
    {C2 : Addr}
    {C3 : Addr}
    {C4 : Addr}
    {C5 : Addr}
    {fI2 cc2 cda2 N2 : Addr} {nm2 qq2 : Str} {bs2 bm2 : List Value} {sn2 : List Str} {sub2 : List Value} {ab2 : Bool} {col2 : Option Bool} {dd2 oD2 ccd2 cld2 aN2 : Option Addr} {x02 x12 x22 x32 x52 : Option Value} {oC2 kK2 dC2 pM2 cT2 ccl2 cL2 : Value} {oS2 ccs2 csl2 : Array (Option Value)} {vS2 : Array Value}
    {fI4 cc4 cda4 N4 : Addr} {nm4 qq4 : Str} {bs4 bm4 : List Value} {sn4 : List Str} {sub4 : List Value} {ab4 : Bool} {col4 : Option Bool} {dd4 oD4 ccd4 cld4 aN4 : Option Addr} {x04 x14 x24 x34 x54 : Option Value} {oC4 kK4 dC4 pM4 cT4 ccl4 cL4 : Value} {oS4 ccs4 csl4 : Array (Option Value)} {vS4 : Array Value}
    (a1 : PySem.W.nsIn K mainGlobals "check_word" = some (some (.ref f1)))
    (l1 : K.lookup f1 = some ⟨oc1, od1, .func (PySem.W.fnOf "check_word" "check_word" (defArgs s_check_word) (defBody s_check_word) (defScope s_check_word) .none kV1 dc1 pm1 an1 cd1 ct1), sl1⟩)
    (c1 : PySem.W.codeIn K cd1 "check_word" = true)
    (k1 : PySem.W.keepIn K (.ref f1) = true)
    (a2 : PySem.W.nsIn K mainGlobals "opposite_word" = some (some (.ref f2)))
    (l2 : K.lookup f2 = some ⟨oc2, od2, .func (PySem.W.fnOf "opposite_word" "opposite_word" (defArgs s_opposite_word) (defBody s_opposite_word) (defScope s_opposite_word) .none kV2 dc2 pm2 an2 cd2 ct2), sl2⟩)
    (c2 : PySem.W.codeIn K cd2 "opposite_word" = true)
    (k2 : PySem.W.keepIn K (.ref f2) = true)
    (a3 : PySem.W.nsIn K mainGlobals "reduced_word" = some (some (.ref f3)))
    (l3 : K.lookup f3 = some ⟨oc3, od3, .func (PySem.W.fnOf "reduced_word" "reduced_word" (defArgs s_reduced_word) (defBody s_reduced_word) (defScope s_reduced_word) .none kV3 dc3 pm3 an3 cd3 ct3), sl3⟩)
    (c3 : PySem.W.codeIn K cd3 "reduced_word" = true)
    (k3 : PySem.W.keepIn K (.ref f3) = true)
    (a4 : PySem.W.nsIn K mainGlobals "limited" = some (some (.ref f4)))
    (l4 : K.lookup f4 = some ⟨oc4, od4, .func (PySem.W.fnOf "limited" "limited" (defArgs s_limited) (defBody s_limited) (defScope s_limited) .none kV4 dc4 pm4 an4 cd4 ct4), sl4⟩)
    (c4 : PySem.W.codeIn K cd4 "limited" = true)
    (k4 : PySem.W.keepIn K (.ref f4) = true)
    (a5 : PySem.W.nsIn K mainGlobals "cyclic_part" = some (some (.ref f5)))
    (l5 : K.lookup f5 = some ⟨oc5, od5, .func (PySem.W.fnOf "cyclic_part" "cyclic_part" (defArgs s_cyclic_part) (defBody s_cyclic_part) (defScope s_cyclic_part) .none kV5 dc5 pm5 an5 cd5 ct5), sl5⟩)
    (c5 : PySem.W.codeIn K cd5 "cyclic_part" = true)
    (k5 : PySem.W.keepIn K (.ref f5) = true)
    (a6 : PySem.W.nsIn K mainGlobals "power_of" = some (some (.ref f6)))
    (l6 : K.lookup f6 = some ⟨oc6, od6, .func (PySem.W.fnOf "power_of" "power_of" (defArgs s_power_of) (defBody s_power_of) (defScope s_power_of) .none kV6 dc6 pm6 an6 cd6 ct6), sl6⟩)
    (c6 : PySem.W.codeIn K cd6 "power_of" = true)
    (k6 : PySem.W.keepIn K (.ref f6) = true)
    (a7 : PySem.W.nsIn K mainGlobals "power" = some (some (.ref f7)))
    (l7 : K.lookup f7 = some ⟨oc7, od7, .func (PySem.W.fnOf "power" "power" (defArgs s_power) (defBody s_power) (defScope s_power) .none kV7 dc7 pm7 an7 cd7 ct7), sl7⟩)
    (c7 : PySem.W.codeIn K cd7 "power" = true)
    (k7 : PySem.W.keepIn K (.ref f7) = true)
    (a8 : PySem.W.nsIn K mainGlobals "commutator_of" = some (some (.ref f8)))
    (l8 : K.lookup f8 = some ⟨oc8, od8, .func (PySem.W.fnOf "commutator_of" "commutator_of" (defArgs s_commutator_of) (defBody s_commutator_of) (defScope s_commutator_of) .none kV8 dc8 pm8 an8 cd8 ct8), sl8⟩)
    (c8 : PySem.W.codeIn K cd8 "commutator_of" = true)
    (k8 : PySem.W.keepIn K (.ref f8) = true)
    (a9 : PySem.W.nsIn K mainGlobals "commutator" = some (some (.ref f9)))
    (l9 : K.lookup f9 = some ⟨oc9, od9, .func (PySem.W.fnOf "commutator" "commutator" (defArgs s_commutator) (defBody s_commutator) (defScope s_commutator) .none kV9 dc9 pm9 an9 cd9 ct9), sl9⟩)
    (c9 : PySem.W.codeIn K cd9 "commutator" = true)
    (k9 : PySem.W.keepIn K (.ref f9) = true)
    (a10 : PySem.W.nsIn K mainGlobals "joined" = some (some (.ref f10)))
    (l10 : K.lookup f10 = some ⟨oc10, od10, .func (PySem.W.fnOf "joined" "joined" (defArgs s_joined) (defBody s_joined) (defScope s_joined) .none kV10 dc10 pm10 an10 cd10 ct10), sl10⟩)
    (c10 : PySem.W.codeIn K cd10 "joined" = true)
    (k10 : PySem.W.keepIn K (.ref f10) = true)
    (a11 : PySem.W.nsIn K mainGlobals "_law_bag" = some (some (.ref f11)))
    (l11 : K.lookup f11 = some ⟨oc11, od11, .func (PySem.W.fnOf "_law_bag" "_law_bag" (defArgs s_l_bag) (defBody s_l_bag) (defScope s_l_bag) .none kV11 dc11 pm11 an11 cd11 ct11), sl11⟩)
    (c11 : PySem.W.codeIn K cd11 "_law_bag" = true)
    (k11 : PySem.W.keepIn K (.ref f11) = true)
    (a12 : PySem.W.nsIn K mainGlobals "_law_draw" = some (some (.ref f12)))
    (l12 : K.lookup f12 = some ⟨oc12, od12, .func (PySem.W.fnOf "_law_draw" "_law_draw" (defArgs s_l_draw) (defBody s_l_draw) (defScope s_l_draw) .none kV12 dc12 pm12 an12 cd12 ct12), sl12⟩)
    (c12 : PySem.W.codeIn K cd12 "_law_draw" = true)
    (k12 : PySem.W.keepIn K (.ref f12) = true)
    (a13 : PySem.W.nsIn K mainGlobals "_law_any" = some (some (.ref f13)))
    (l13 : K.lookup f13 = some ⟨oc13, od13, .func (PySem.W.fnOf "_law_any" "_law_any" (defArgs s_l_any) (defBody s_l_any) (defScope s_l_any) .none kV13 dc13 pm13 an13 cd13 ct13), sl13⟩)
    (c13 : PySem.W.codeIn K cd13 "_law_any" = true)
    (k13 : PySem.W.keepIn K (.ref f13) = true)
    (a14 : PySem.W.nsIn K mainGlobals "_law_drawn_word" = some (some (.ref f14)))
    (l14 : K.lookup f14 = some ⟨oc14, od14, .func (PySem.W.fnOf "_law_drawn_word" "_law_drawn_word" (defArgs s_l_drawn_word) (defBody s_l_drawn_word) (defScope s_l_drawn_word) .none kV14 dc14 pm14 an14 cd14 ct14), sl14⟩)
    (c14 : PySem.W.codeIn K cd14 "_law_drawn_word" = true)
    (k14 : PySem.W.keepIn K (.ref f14) = true)
    (a15 : PySem.W.nsIn K mainGlobals "_law_opposite" = some (some (.ref f15)))
    (l15 : K.lookup f15 = some ⟨oc15, od15, .func (PySem.W.fnOf "_law_opposite" "_law_opposite" (defArgs s_l_opposite) (defBody s_l_opposite) (defScope s_l_opposite) .none kV15 dc15 pm15 an15 cd15 ct15), sl15⟩)
    (c15 : PySem.W.codeIn K cd15 "_law_opposite" = true)
    (k15 : PySem.W.keepIn K (.ref f15) = true)
    (a16 : PySem.W.nsIn K mainGlobals "_law_inverse" = some (some (.ref f16)))
    (l16 : K.lookup f16 = some ⟨oc16, od16, .func (PySem.W.fnOf "_law_inverse" "_law_inverse" (defArgs s_l_inverse) (defBody s_l_inverse) (defScope s_l_inverse) .none kV16 dc16 pm16 an16 cd16 ct16), sl16⟩)
    (c16 : PySem.W.codeIn K cd16 "_law_inverse" = true)
    (k16 : PySem.W.keepIn K (.ref f16) = true)
    (a17 : PySem.W.nsIn K mainGlobals "_law_like" = some (some (.ref f17)))
    (l17 : K.lookup f17 = some ⟨oc17, od17, .func (PySem.W.fnOf "_law_like" "_law_like" (defArgs s_l_like) (defBody s_l_like) (defScope s_l_like) .none kV17 dc17 pm17 an17 cd17 ct17), sl17⟩)
    (c17 : PySem.W.codeIn K cd17 "_law_like" = true)
    (k17 : PySem.W.keepIn K (.ref f17) = true)
    (a18 : PySem.W.nsIn K mainGlobals "_law_field" = some (some (.ref f18)))
    (l18 : K.lookup f18 = some ⟨oc18, od18, .func (PySem.W.fnOf "_law_field" "_law_field" (defArgs s_l_field) (defBody s_l_field) (defScope s_l_field) .none kV18 dc18 pm18 an18 cd18 ct18), sl18⟩)
    (c18 : PySem.W.codeIn K cd18 "_law_field" = true)
    (k18 : PySem.W.keepIn K (.ref f18) = true)
    (a19 : PySem.W.nsIn K mainGlobals "_law_try" = some (some (.ref f19)))
    (l19 : K.lookup f19 = some ⟨oc19, od19, .func (PySem.W.fnOf "_law_try" "_law_try" (defArgs s_l_try) (defBody s_l_try) (defScope s_l_try) .none kV19 dc19 pm19 an19 cd19 ct19), sl19⟩)
    (c19 : PySem.W.codeIn K cd19 "_law_try" = true)
    (k19 : PySem.W.keepIn K (.ref f19) = true)
    (a20 : PySem.W.nsIn K mainGlobals "_law_limited" = some (some (.ref f20)))
    (l20 : K.lookup f20 = some ⟨oc20, od20, .func (PySem.W.fnOf "_law_limited" "_law_limited" (defArgs s_l_limited) (defBody s_l_limited) (defScope s_l_limited) .none kV20 dc20 pm20 an20 cd20 ct20), sl20⟩)
    (c20 : PySem.W.codeIn K cd20 "_law_limited" = true)
    (k20 : PySem.W.keepIn K (.ref f20) = true)
    (a21 : PySem.W.nsIn K mainGlobals "_law_reduced" = some (some (.ref f21)))
    (l21 : K.lookup f21 = some ⟨oc21, od21, .func (PySem.W.fnOf "_law_reduced" "_law_reduced" (defArgs s_l_reduced) (defBody s_l_reduced) (defScope s_l_reduced) .none kV21 dc21 pm21 an21 cd21 ct21), sl21⟩)
    (c21 : PySem.W.codeIn K cd21 "_law_reduced" = true)
    (k21 : PySem.W.keepIn K (.ref f21) = true)
    (a22 : PySem.W.nsIn K mainGlobals "_law_tries" = some (some (.ref f22)))
    (l22 : K.lookup f22 = some ⟨oc22, od22, .func (PySem.W.fnOf "_law_tries" "_law_tries" (defArgs s_l_tries) (defBody s_l_tries) (defScope s_l_tries) .none kV22 dc22 pm22 an22 cd22 ct22), sl22⟩)
    (c22 : PySem.W.codeIn K cd22 "_law_tries" = true)
    (k22 : PySem.W.keepIn K (.ref f22) = true)
    (a23 : PySem.W.nsIn K mainGlobals "_law_limits_so" = some (some (.ref f23)))
    (l23 : K.lookup f23 = some ⟨oc23, od23, .func (PySem.W.fnOf "_law_limits_so" "_law_limits_so" (defArgs s_l_limits_so) (defBody s_l_limits_so) (defScope s_l_limits_so) .none kV23 dc23 pm23 an23 (.ref ca23) ct23), sl23⟩)
    (c23 : PySem.W.codeIn K (.ref ca23) "_law_limits_so" = true)
    (k23 : PySem.W.keepIn K (.ref f23) = true)
    (m23 : K.lookup ca23 = some ⟨ce23, cf23, .fields cv23, cg23⟩)
    (n23 : cv23[11]? = some (.ref Pt23))
    (o23 : PySem.W.codeHdIn K ca23 Pt23 = true)
    (p23 : K.lookup Pt23 = none)
    (h23 : h.get? Pt23 = some { cls := .none, data := .fields #[] })
    (a24 : PySem.W.nsIn K mainGlobals "law" = some (some (.ref f24)))
    (l24 : K.lookup f24 = some ⟨oc24, od24, .func (PySem.W.fnOf "law" "law" (defArgs s_law) (defBody s_law) (defScope s_law) .none kV24 dc24 pm24 an24 (.ref ca24) ct24), sl24⟩)
    (c24 : PySem.W.codeIn K (.ref ca24) "law" = true)
    (k24 : PySem.W.keepIn K (.ref f24) = true)
    (m24 : K.lookup ca24 = some ⟨ce24, cf24, .fields cv24, cg24⟩)
    (n24 : cv24[11]? = some (.ref Pt24))
    (o24 : PySem.W.codeHdIn K ca24 Pt24 = true)
    (p24 : K.lookup Pt24 = none)
    (h24 : h.get? Pt24 = some { cls := .none, data := .fields #[] })
    (qa1 : PySem.W.nsIn K mainGlobals "LETTERS" = some (some (.str "abcdABCD" qt1)))
    (qa2 : PySem.W.nsIn K mainGlobals "MAX_WORD" = some (some (.int 60 qt2)))
    (qa3 : PySem.W.nsIn K mainGlobals "OPPOSITES" = some (some (.ref q3)))
    (ql3 : K.lookup q3 = some ⟨.type "dict", none, .dict qe3 qn3, #[]⟩)
    (qk3 : PySem.W.KeysLit w.params qe3.toList)
    (qv3_0 : PySem.W.nsIn K q3 "a" = some (some (.str "A" qt3_0)))
    (qv3_1 : PySem.W.nsIn K q3 "b" = some (some (.str "B" qt3_1)))
    (qv3_2 : PySem.W.nsIn K q3 "c" = some (some (.str "C" qt3_2)))
    (qv3_3 : PySem.W.nsIn K q3 "d" = some (some (.str "D" qt3_3)))
    (qv3_4 : PySem.W.nsIn K q3 "A" = some (some (.str "a" qt3_4)))
    (qv3_5 : PySem.W.nsIn K q3 "B" = some (some (.str "b" qt3_5)))
    (qv3_6 : PySem.W.nsIn K q3 "C" = some (some (.str "c" qt3_6)))
    (qv3_7 : PySem.W.nsIn K q3 "D" = some (some (.str "d" qt3_7)))
    (th : PySem.W.nsIn K cStatics "thirdparty.any" = some none)
    (tz : PySem.W.nsIn K mainGlobals "super" = some none)
    (tp : (l.prog.main.scope.names.lookup ("super" : Str)).isSome = false)
    (ea1 : PySem.W.nsIn K mainGlobals "HemError" = some (some (.ref C1)))
    (ee1 : PySem.W.subIn K (.ref C1) (.type "BaseException") = some true)
    (et1 : PySem.W.typeIn K (.ref C1) = some (.type "type"))
    (ei1 : PySem.W.isClsIn K C1 = true)
    (ea2 : PySem.W.nsIn K mainGlobals "InvalidWord" = some (some (.ref C2)))
    (ee2 : PySem.W.subIn K (.ref C2) (.type "BaseException") = some true)
    (et2 : PySem.W.typeIn K (.ref C2) = some (.type "type"))
    (ei2 : PySem.W.isClsIn K C2 = true)
    (ea3 : PySem.W.nsIn K mainGlobals "NothingLeft" = some (some (.ref C3)))
    (ee3 : PySem.W.subIn K (.ref C3) (.type "BaseException") = some true)
    (et3 : PySem.W.typeIn K (.ref C3) = some (.type "type"))
    (ei3 : PySem.W.isClsIn K C3 = true)
    (ea4 : PySem.W.nsIn K mainGlobals "TooLong" = some (some (.ref C4)))
    (ee4 : PySem.W.subIn K (.ref C4) (.type "BaseException") = some true)
    (et4 : PySem.W.typeIn K (.ref C4) = some (.type "type"))
    (ei4 : PySem.W.isClsIn K C4 = true)
    (ea5 : PySem.W.nsIn K mainGlobals "UnknownName" = some (some (.ref C5)))
    (ee5 : PySem.W.subIn K (.ref C5) (.type "BaseException") = some true)
    (et5 : PySem.W.typeIn K (.ref C5) = some (.type "type"))
    (ei5 : PySem.W.isClsIn K C5 = true)
    (xL2 : K.lookup C2 = some (excClassObj nm2 qq2 C2 N2 bs2 bm2 true sn2 sub2 ab2 col2 dd2 x02 x12 x22 x32 x52 "ValueError.__new__"))
    (xb2 : PySem.HandSPX.refsVE bm2 = true)
    (xs2 : PySem.W.findIn K (.ref C2) "__setattr__" = some (some (.builtin "object.__setattr__")))
    (xk2 : PySem.W.keepIn K (.ref C2) = true)
    (xi2 : PySem.W.findIn K (.ref C2) "__init__" = some (some (.ref fI2)))
    (xt2 : PySem.W.typeIn K (.ref fI2) = some (.type "function"))
    (xl2 : K.lookup fI2 = some ⟨oC2, oD2, .func (PySem.W.ksFn "__init__" "InvalidWord.__init__" (defArgs ei_InvalidWord) (defBody ei_InvalidWord) (defScope ei_InvalidWord) .none kK2 dC2 pM2 aN2 (.ref cda2) cT2 cc2), oS2⟩)
    (xc2 : PySem.W.codeIn K (.ref cda2) "InvalidWord.__init__" = true)
    (xo2 : K.lookup cda2 = some ⟨ccl2, ccd2, .fields vS2, ccs2⟩)
    (xf2 : ∃ f tf, vS2[2]? = some (.str f tf) ∧ ((l.prog.main.file : Str) == f) = true)
    (xe2 : K.lookup cc2 = some ⟨cL2, cld2, .cell (some (.ref C2)), csl2⟩)
    (xm2 : PySem.W.mroIn K C2 (.ref C2) = some true)
    (xp2 : PySem.W.ks_superIn K C2 C2 "__init__" = some (some (.builtin "ValueError.__init__")))
    (xv2 : PySem.W.subIn K (.ref C2) (.type "ValueError") = some true)
    (xn2 : PySem.W.findIn K (.ref C2) "code" = some none)
    (xq2 : PySem.W.findIn K (.ref C2) "position" = some none)
    (yg2 : PySem.W.findIn K (.ref C2) "__getattribute__" = some (some (.builtin "BaseException.__getattribute__")))
    (yh2 : PySem.W.findIn K (.ref C2) "__getattr__" = some none)
    (yd2 : PySem.W.hasDictIn K C2 = true)
    (y0_2 : PySem.W.subIn K (.ref C2) (.ref C1) = some true)
    (y1_2 : PySem.W.subIn K (.ref C2) (.ref C5) = some false)
    (y2_2 : PySem.W.subIn K (.ref C2) (.ref C3) = some false)
    (xL4 : K.lookup C4 = some (excClassObj nm4 qq4 C4 N4 bs4 bm4 true sn4 sub4 ab4 col4 dd4 x04 x14 x24 x34 x54 "ValueError.__new__"))
    (xb4 : PySem.HandSPX.refsVE bm4 = true)
    (xs4 : PySem.W.findIn K (.ref C4) "__setattr__" = some (some (.builtin "object.__setattr__")))
    (xk4 : PySem.W.keepIn K (.ref C4) = true)
    (xi4 : PySem.W.findIn K (.ref C4) "__init__" = some (some (.ref fI4)))
    (xt4 : PySem.W.typeIn K (.ref fI4) = some (.type "function"))
    (xl4 : K.lookup fI4 = some ⟨oC4, oD4, .func (PySem.W.ksFn "__init__" "TooLong.__init__" (defArgs ei_TooLong) (defBody ei_TooLong) (defScope ei_TooLong) .none kK4 dC4 pM4 aN4 (.ref cda4) cT4 cc4), oS4⟩)
    (xc4 : PySem.W.codeIn K (.ref cda4) "TooLong.__init__" = true)
    (xo4 : K.lookup cda4 = some ⟨ccl4, ccd4, .fields vS4, ccs4⟩)
    (xf4 : ∃ f tf, vS4[2]? = some (.str f tf) ∧ ((l.prog.main.file : Str) == f) = true)
    (xe4 : K.lookup cc4 = some ⟨cL4, cld4, .cell (some (.ref C4)), csl4⟩)
    (xm4 : PySem.W.mroIn K C4 (.ref C4) = some true)
    (xp4 : PySem.W.ks_superIn K C4 C4 "__init__" = some (some (.builtin "ValueError.__init__")))
    (xv4 : PySem.W.subIn K (.ref C4) (.type "ValueError") = some true)
    (xn4 : PySem.W.findIn K (.ref C4) "code" = some none)
    (xq4 : PySem.W.findIn K (.ref C4) "limit" = some none)
    (yg4 : PySem.W.findIn K (.ref C4) "__getattribute__" = some (some (.builtin "BaseException.__getattribute__")))
    (yh4 : PySem.W.findIn K (.ref C4) "__getattr__" = some none)
    (yd4 : PySem.W.hasDictIn K C4 = true)
    (y0_4 : PySem.W.subIn K (.ref C4) (.ref C1) = some true)
    (y1_4 : PySem.W.subIn K (.ref C4) (.ref C5) = some false)
    (y2_4 : PySem.W.subIn K (.ref C4) (.ref C3) = some false)
    (z1 : PySem.W.nsIn K mainGlobals "abs" = some none)
    (z2 : PySem.W.nsIn K mainGlobals "all" = some none)
    (z3 : PySem.W.nsIn K mainGlobals "bool" = some none)
    (z4 : PySem.W.nsIn K mainGlobals "dict" = some none)
    (z5 : PySem.W.nsIn K mainGlobals "enumerate" = some none)
    (z6 : PySem.W.nsIn K mainGlobals "int" = some none)
    (z7 : PySem.W.nsIn K mainGlobals "isinstance" = some none)
    (z8 : PySem.W.nsIn K mainGlobals "len" = some none)
    (z9 : PySem.W.nsIn K mainGlobals "list" = some none)
    (z10 : PySem.W.nsIn K mainGlobals "range" = some none)
    (z11 : PySem.W.nsIn K mainGlobals "str" = some none)
    (z12 : PySem.W.nsIn K mainGlobals "tuple" = some none)
    (hn24_23 : Pt24 ≠ Pt23) : Tx l.prog w K mg where
  a_check_word := f1
  d_check_word := _
  F_check_word := fun_mk (st := s_check_word) l1 c1 k1
  g_check_word := PySem.W.mg_of X G a1
  a_opposite_word := f2
  d_opposite_word := _
  F_opposite_word := fun_mk (st := s_opposite_word) l2 c2 k2
  g_opposite_word := PySem.W.mg_of X G a2
  a_reduced_word := f3
  d_reduced_word := _
  F_reduced_word := fun_mk (st := s_reduced_word) l3 c3 k3
  g_reduced_word := PySem.W.mg_of X G a3
  a_limited := f4
  d_limited := _
  F_limited := fun_mk (st := s_limited) l4 c4 k4
  g_limited := PySem.W.mg_of X G a4
  a_cyclic_part := f5
  d_cyclic_part := _
  F_cyclic_part := fun_mk (st := s_cyclic_part) l5 c5 k5
  g_cyclic_part := PySem.W.mg_of X G a5
  a_power_of := f6
  d_power_of := _
  F_power_of := fun_mk (st := s_power_of) l6 c6 k6
  g_power_of := PySem.W.mg_of X G a6
  a_power := f7
  d_power := _
  F_power := fun_mk (st := s_power) l7 c7 k7
  g_power := PySem.W.mg_of X G a7
  a_commutator_of := f8
  d_commutator_of := _
  F_commutator_of := fun_mk (st := s_commutator_of) l8 c8 k8
  g_commutator_of := PySem.W.mg_of X G a8
  a_commutator := f9
  d_commutator := _
  F_commutator := fun_mk (st := s_commutator) l9 c9 k9
  g_commutator := PySem.W.mg_of X G a9
  a_joined := f10
  d_joined := _
  F_joined := fun_mk (st := s_joined) l10 c10 k10
  g_joined := PySem.W.mg_of X G a10
  a_l_bag := f11
  d_l_bag := _
  F_l_bag := fun_mk (st := s_l_bag) l11 c11 k11
  g_l_bag := PySem.W.mg_of X G a11
  a_l_draw := f12
  d_l_draw := _
  F_l_draw := fun_mk (st := s_l_draw) l12 c12 k12
  g_l_draw := PySem.W.mg_of X G a12
  a_l_any := f13
  d_l_any := _
  F_l_any := fun_mk (st := s_l_any) l13 c13 k13
  g_l_any := PySem.W.mg_of X G a13
  a_l_drawn_word := f14
  d_l_drawn_word := _
  F_l_drawn_word := fun_mk (st := s_l_drawn_word) l14 c14 k14
  g_l_drawn_word := PySem.W.mg_of X G a14
  a_l_opposite := f15
  d_l_opposite := _
  F_l_opposite := fun_mk (st := s_l_opposite) l15 c15 k15
  g_l_opposite := PySem.W.mg_of X G a15
  a_l_inverse := f16
  d_l_inverse := _
  F_l_inverse := fun_mk (st := s_l_inverse) l16 c16 k16
  g_l_inverse := PySem.W.mg_of X G a16
  a_l_like := f17
  d_l_like := _
  F_l_like := fun_mk (st := s_l_like) l17 c17 k17
  g_l_like := PySem.W.mg_of X G a17
  a_l_field := f18
  d_l_field := _
  F_l_field := fun_mk (st := s_l_field) l18 c18 k18
  g_l_field := PySem.W.mg_of X G a18
  a_l_try := f19
  d_l_try := _
  F_l_try := fun_mk (st := s_l_try) l19 c19 k19
  g_l_try := PySem.W.mg_of X G a19
  a_l_limited := f20
  d_l_limited := _
  F_l_limited := fun_mk (st := s_l_limited) l20 c20 k20
  g_l_limited := PySem.W.mg_of X G a20
  a_l_reduced := f21
  d_l_reduced := _
  F_l_reduced := fun_mk (st := s_l_reduced) l21 c21 k21
  g_l_reduced := PySem.W.mg_of X G a21
  a_l_tries := f22
  d_l_tries := _
  F_l_tries := fun_mk (st := s_l_tries) l22 c22 k22
  g_l_tries := PySem.W.mg_of X G a22
  a_l_limits_so := f23
  d_l_limits_so := _
  e_l_limits_so := ca23
  p_l_limits_so := Pt23
  F_l_limits_so := ⟨⟨_, _, _, _, _, _, _, _, rfl, l23, c23⟩, k23⟩
  g_l_limits_so := PySem.W.mg_of X G a23
  a_law := f24
  d_law := _
  e_law := ca24
  p_law := Pt24
  F_law := ⟨⟨_, _, _, _, _, _, _, _, rfl, l24, c24⟩, k24⟩
  g_law := PySem.W.mg_of X G a24
  g_LETTERS := ⟨_, PySem.W.mg_of X G qa1⟩
  g_MAX_WORD := ⟨_, PySem.W.mg_of X G qa2⟩
  a_OPPOSITES := q3
  g_OPPOSITES := PySem.W.mg_of X G qa3
  k_OPPOSITES := ⟨⟨_, _, _, ql3, qk3, qv3_0, ⟨_, rfl⟩⟩, ⟨_, _, _, ql3, qk3, qv3_1, ⟨_, rfl⟩⟩, ⟨_, _, _, ql3, qk3, qv3_2, ⟨_, rfl⟩⟩, ⟨_, _, _, ql3, qk3, qv3_3, ⟨_, rfl⟩⟩, ⟨_, _, _, ql3, qk3, qv3_4, ⟨_, rfl⟩⟩, ⟨_, _, _, ql3, qk3, qv3_5, ⟨_, rfl⟩⟩, ⟨_, _, _, ql3, qk3, qv3_6, ⟨_, rfl⟩⟩, ⟨_, _, _, ql3, qk3, qv3_7, ⟨_, rfl⟩⟩⟩
  b_HemError := C1
  h_HemError := PySem.W.mg_of X G ea1
  b_InvalidWord := C2
  h_InvalidWord := PySem.W.mg_of X G ea2
  b_NothingLeft := C3
  h_NothingLeft := PySem.W.mg_of X G ea3
  b_TooLong := C4
  h_TooLong := PySem.W.mg_of X G ea4
  b_UnknownName := C5
  h_UnknownName := PySem.W.mg_of X G ea5
  x_InvalidWord := errC_mk (st := ei_InvalidWord) (supS_by (by decide +kernel)) eB_InvalidWord (fun _ _ _ _ _ _ _ us hl => match us, hl with | [_, _], _ => rfl) tp (PySem.W.mg_none_of X G tz) xL2 xb2 xs2 ee2 et2 xk2 xi2 xt2 xl2 xc2 xo2 xf2 xe2 xm2 th xp2 xv2 xn2 xq2
  y_InvalidWord := ⟨⟨_, _, _, PySem.W.mg_of X G ea1, PySem.W.mg_of X G ea5, PySem.W.mg_of X G ea3, exm_any3 (exm_one ee1 ei1 et1 y0_2) (exm_one ee5 ei5 et5 y1_2) (exm_one ee3 ei3 et3 y2_2)⟩, ⟨yg2, yh2, ee2, yd2, xn2⟩, ⟨yg2, yh2, ee2, yd2, xq2⟩, by decide +kernel⟩
  x_TooLong := errC_mk (st := ei_TooLong) (supS_by (by decide +kernel)) eB_TooLong (fun _ _ _ _ _ _ _ us hl => match us, hl with | [_, _], _ => rfl) tp (PySem.W.mg_none_of X G tz) xL4 xb4 xs4 ee4 et4 xk4 xi4 xt4 xl4 xc4 xo4 xf4 xe4 xm4 th xp4 xv4 xn4 xq4
  y_TooLong := ⟨⟨_, _, _, PySem.W.mg_of X G ea1, PySem.W.mg_of X G ea5, PySem.W.mg_of X G ea3, exm_any3 (exm_one ee1 ei1 et1 y0_4) (exm_one ee5 ei5 et5 y1_4) (exm_one ee3 ei3 et3 y2_4)⟩, ⟨yg4, yh4, ee4, yd4, xn4⟩, ⟨yg4, yh4, ee4, yd4, xq4⟩, by decide +kernel⟩
  z_abs := PySem.W.mg_none_of X G z1
  z_all := PySem.W.mg_none_of X G z2
  z_bool := PySem.W.mg_none_of X G z3
  z_dict := PySem.W.mg_none_of X G z4
  z_enumerate := PySem.W.mg_none_of X G z5
  z_int := PySem.W.mg_none_of X G z6
  z_isinstance := PySem.W.mg_none_of X G z7
  z_len := PySem.W.mg_none_of X G z8
  z_list := PySem.W.mg_none_of X G z9
  z_range := PySem.W.mg_none_of X G z10
  z_str := PySem.W.mg_none_of X G z11
  z_tuple := PySem.W.mg_none_of X G z12
theorem all_mk {l : PySem.W.OpenLaw} {w : World} {K : PySem.W.Frag} {h : Heap} {mg : Str → Option Value} {fa : Addr} (X : K.In h) (G : h.Ns mainGlobals mg) (hfa : mg "law" = some (.ref fa))
    {f1 : Addr} {od1 an1 : Option Addr} {sl1 : Array (Option Value)} {oc1 kV1 dc1 pm1 cd1 ct1 : Value}
    {f2 : Addr} {od2 an2 : Option Addr} {sl2 : Array (Option Value)} {oc2 kV2 dc2 pm2 cd2 ct2 : Value}
    {f3 : Addr} {od3 an3 : Option Addr} {sl3 : Array (Option Value)} {oc3 kV3 dc3 pm3 cd3 ct3 : Value}
    {f4 : Addr} {od4 an4 : Option Addr} {sl4 : Array (Option Value)} {oc4 kV4 dc4 pm4 cd4 ct4 : Value}
    {f5 : Addr} {od5 an5 : Option Addr} {sl5 : Array (Option Value)} {oc5 kV5 dc5 pm5 cd5 ct5 : Value}
    {f6 : Addr} {od6 an6 : Option Addr} {sl6 : Array (Option Value)} {oc6 kV6 dc6 pm6 cd6 ct6 : Value}
    {f7 : Addr} {od7 an7 : Option Addr} {sl7 : Array (Option Value)} {oc7 kV7 dc7 pm7 cd7 ct7 : Value}
    {f8 : Addr} {od8 an8 : Option Addr} {sl8 : Array (Option Value)} {oc8 kV8 dc8 pm8 cd8 ct8 : Value}
    {f9 : Addr} {od9 an9 : Option Addr} {sl9 : Array (Option Value)} {oc9 kV9 dc9 pm9 cd9 ct9 : Value}
    {f10 : Addr} {od10 an10 : Option Addr} {sl10 : Array (Option Value)} {oc10 kV10 dc10 pm10 cd10 ct10 : Value}
    {f11 : Addr} {od11 an11 : Option Addr} {sl11 : Array (Option Value)} {oc11 kV11 dc11 pm11 cd11 ct11 : Value}
    {f12 : Addr} {od12 an12 : Option Addr} {sl12 : Array (Option Value)} {oc12 kV12 dc12 pm12 cd12 ct12 : Value}
    {f13 : Addr} {od13 an13 : Option Addr} {sl13 : Array (Option Value)} {oc13 kV13 dc13 pm13 cd13 ct13 : Value}
    {f14 : Addr} {od14 an14 : Option Addr} {sl14 : Array (Option Value)} {oc14 kV14 dc14 pm14 cd14 ct14 : Value}
    {f15 : Addr} {od15 an15 : Option Addr} {sl15 : Array (Option Value)} {oc15 kV15 dc15 pm15 cd15 ct15 : Value}
    {f16 : Addr} {od16 an16 : Option Addr} {sl16 : Array (Option Value)} {oc16 kV16 dc16 pm16 cd16 ct16 : Value}
    {f17 : Addr} {od17 an17 : Option Addr} {sl17 : Array (Option Value)} {oc17 kV17 dc17 pm17 cd17 ct17 : Value}
    {f18 : Addr} {od18 an18 : Option Addr} {sl18 : Array (Option Value)} {oc18 kV18 dc18 pm18 cd18 ct18 : Value}
    {f19 : Addr} {od19 an19 : Option Addr} {sl19 : Array (Option Value)} {oc19 kV19 dc19 pm19 cd19 ct19 : Value}
    {f20 : Addr} {od20 an20 : Option Addr} {sl20 : Array (Option Value)} {oc20 kV20 dc20 pm20 cd20 ct20 : Value}
    {f21 : Addr} {od21 an21 : Option Addr} {sl21 : Array (Option Value)} {oc21 kV21 dc21 pm21 cd21 ct21 : Value}
    {f22 : Addr} {od22 an22 : Option Addr} {sl22 : Array (Option Value)} {oc22 kV22 dc22 pm22 cd22 ct22 : Value}
    {f23 : Addr} {od23 an23 : Option Addr} {sl23 : Array (Option Value)} {oc23 kV23 dc23 pm23 ct23 : Value}
    {ca23 Pt23 : Addr} {ce23 : Value} {cf23 : Option Addr} {cv23 : Array Value} {cg23 : Array (Option Value)}
    {f24 : Addr} {od24 an24 : Option Addr} {sl24 : Array (Option Value)} {oc24 kV24 dc24 pm24 ct24 : Value}
    {ca24 Pt24 : Addr} {ce24 : Value} {cf24 : Option Addr} {cv24 : Array Value} {cg24 : Array (Option Value)}
    {qt1 : Tok}
    {qt2 : Tok}
    {q3 : Addr} {qe3 : Array DictEntry} {qn3 : Nat} {qt3_0 : Tok} {qt3_1 : Tok} {qt3_2 : Tok} {qt3_3 : Tok} {qt3_4 : Tok} {qt3_5 : Tok} {qt3_6 : Tok} {qt3_7 : Tok}
    {C1 : Addr}
    {C2 : Addr}
    {C3 : Addr}
    {C4 : Addr}
    {C5 : Addr}
    {fI2 cc2 cda2 N2 : Addr} {nm2 qq2 : Str} {bs2 bm2 : List Value} {sn2 : List Str} {sub2 : List Value} {ab2 : Bool} {col2 : Option Bool} {dd2 oD2 ccd2 cld2 aN2 : Option Addr} {x02 x12 x22 x32 x52 : Option Value} {oC2 kK2 dC2 pM2 cT2 ccl2 cL2 : Value} {oS2 ccs2 csl2 : Array (Option Value)} {vS2 : Array Value}
    {fI4 cc4 cda4 N4 : Addr} {nm4 qq4 : Str} {bs4 bm4 : List Value} {sn4 : List Str} {sub4 : List Value} {ab4 : Bool} {col4 : Option Bool} {dd4 oD4 ccd4 cld4 aN4 : Option Addr} {x04 x14 x24 x34 x54 : Option Value} {oC4 kK4 dC4 pM4 cT4 ccl4 cL4 : Value} {oS4 ccs4 csl4 : Array (Option Value)} {vS4 : Array Value}
    (a1 : PySem.W.nsIn K mainGlobals "check_word" = some (some (.ref f1)))
    (l1 : K.lookup f1 = some ⟨oc1, od1, .func (PySem.W.fnOf "check_word" "check_word" (defArgs s_check_word) (defBody s_check_word) (defScope s_check_word) .none kV1 dc1 pm1 an1 cd1 ct1), sl1⟩)
    (c1 : PySem.W.codeIn K cd1 "check_word" = true)
    (k1 : PySem.W.keepIn K (.ref f1) = true)
    (a2 : PySem.W.nsIn K mainGlobals "opposite_word" = some (some (.ref f2)))
    (l2 : K.lookup f2 = some ⟨oc2, od2, .func (PySem.W.fnOf "opposite_word" "opposite_word" (defArgs s_opposite_word) (defBody s_opposite_word) (defScope s_opposite_word) .none kV2 dc2 pm2 an2 cd2 ct2), sl2⟩)
    (c2 : PySem.W.codeIn K cd2 "opposite_word" = true)
    (k2 : PySem.W.keepIn K (.ref f2) = true)
    (a3 : PySem.W.nsIn K mainGlobals "reduced_word" = some (some (.ref f3)))
    (l3 : K.lookup f3 = some ⟨oc3, od3, .func (PySem.W.fnOf "reduced_word" "reduced_word" (defArgs s_reduced_word) (defBody s_reduced_word) (defScope s_reduced_word) .none kV3 dc3 pm3 an3 cd3 ct3), sl3⟩)
    (c3 : PySem.W.codeIn K cd3 "reduced_word" = true)
    (k3 : PySem.W.keepIn K (.ref f3) = true)
    (a4 : PySem.W.nsIn K mainGlobals "limited" = some (some (.ref f4)))
    (l4 : K.lookup f4 = some ⟨oc4, od4, .func (PySem.W.fnOf "limited" "limited" (defArgs s_limited) (defBody s_limited) (defScope s_limited) .none kV4 dc4 pm4 an4 cd4 ct4), sl4⟩)
    (c4 : PySem.W.codeIn K cd4 "limited" = true)
    (k4 : PySem.W.keepIn K (.ref f4) = true)
    (a5 : PySem.W.nsIn K mainGlobals "cyclic_part" = some (some (.ref f5)))
    (l5 : K.lookup f5 = some ⟨oc5, od5, .func (PySem.W.fnOf "cyclic_part" "cyclic_part" (defArgs s_cyclic_part) (defBody s_cyclic_part) (defScope s_cyclic_part) .none kV5 dc5 pm5 an5 cd5 ct5), sl5⟩)
    (c5 : PySem.W.codeIn K cd5 "cyclic_part" = true)
    (k5 : PySem.W.keepIn K (.ref f5) = true)
    (a6 : PySem.W.nsIn K mainGlobals "power_of" = some (some (.ref f6)))
    (l6 : K.lookup f6 = some ⟨oc6, od6, .func (PySem.W.fnOf "power_of" "power_of" (defArgs s_power_of) (defBody s_power_of) (defScope s_power_of) .none kV6 dc6 pm6 an6 cd6 ct6), sl6⟩)
    (c6 : PySem.W.codeIn K cd6 "power_of" = true)
    (k6 : PySem.W.keepIn K (.ref f6) = true)
    (a7 : PySem.W.nsIn K mainGlobals "power" = some (some (.ref f7)))
    (l7 : K.lookup f7 = some ⟨oc7, od7, .func (PySem.W.fnOf "power" "power" (defArgs s_power) (defBody s_power) (defScope s_power) .none kV7 dc7 pm7 an7 cd7 ct7), sl7⟩)
    (c7 : PySem.W.codeIn K cd7 "power" = true)
    (k7 : PySem.W.keepIn K (.ref f7) = true)
    (a8 : PySem.W.nsIn K mainGlobals "commutator_of" = some (some (.ref f8)))
    (l8 : K.lookup f8 = some ⟨oc8, od8, .func (PySem.W.fnOf "commutator_of" "commutator_of" (defArgs s_commutator_of) (defBody s_commutator_of) (defScope s_commutator_of) .none kV8 dc8 pm8 an8 cd8 ct8), sl8⟩)
    (c8 : PySem.W.codeIn K cd8 "commutator_of" = true)
    (k8 : PySem.W.keepIn K (.ref f8) = true)
    (a9 : PySem.W.nsIn K mainGlobals "commutator" = some (some (.ref f9)))
    (l9 : K.lookup f9 = some ⟨oc9, od9, .func (PySem.W.fnOf "commutator" "commutator" (defArgs s_commutator) (defBody s_commutator) (defScope s_commutator) .none kV9 dc9 pm9 an9 cd9 ct9), sl9⟩)
    (c9 : PySem.W.codeIn K cd9 "commutator" = true)
    (k9 : PySem.W.keepIn K (.ref f9) = true)
    (a10 : PySem.W.nsIn K mainGlobals "joined" = some (some (.ref f10)))
    (l10 : K.lookup f10 = some ⟨oc10, od10, .func (PySem.W.fnOf "joined" "joined" (defArgs s_joined) (defBody s_joined) (defScope s_joined) .none kV10 dc10 pm10 an10 cd10 ct10), sl10⟩)
    (c10 : PySem.W.codeIn K cd10 "joined" = true)
    (k10 : PySem.W.keepIn K (.ref f10) = true)
    (a11 : PySem.W.nsIn K mainGlobals "_law_bag" = some (some (.ref f11)))
    (l11 : K.lookup f11 = some ⟨oc11, od11, .func (PySem.W.fnOf "_law_bag" "_law_bag" (defArgs s_l_bag) (defBody s_l_bag) (defScope s_l_bag) .none kV11 dc11 pm11 an11 cd11 ct11), sl11⟩)
    (c11 : PySem.W.codeIn K cd11 "_law_bag" = true)
    (k11 : PySem.W.keepIn K (.ref f11) = true)
    (a12 : PySem.W.nsIn K mainGlobals "_law_draw" = some (some (.ref f12)))
    (l12 : K.lookup f12 = some ⟨oc12, od12, .func (PySem.W.fnOf "_law_draw" "_law_draw" (defArgs s_l_draw) (defBody s_l_draw) (defScope s_l_draw) .none kV12 dc12 pm12 an12 cd12 ct12), sl12⟩)
    (c12 : PySem.W.codeIn K cd12 "_law_draw" = true)
    (k12 : PySem.W.keepIn K (.ref f12) = true)
    (a13 : PySem.W.nsIn K mainGlobals "_law_any" = some (some (.ref f13)))
    (l13 : K.lookup f13 = some ⟨oc13, od13, .func (PySem.W.fnOf "_law_any" "_law_any" (defArgs s_l_any) (defBody s_l_any) (defScope s_l_any) .none kV13 dc13 pm13 an13 cd13 ct13), sl13⟩)
    (c13 : PySem.W.codeIn K cd13 "_law_any" = true)
    (k13 : PySem.W.keepIn K (.ref f13) = true)
    (a14 : PySem.W.nsIn K mainGlobals "_law_drawn_word" = some (some (.ref f14)))
    (l14 : K.lookup f14 = some ⟨oc14, od14, .func (PySem.W.fnOf "_law_drawn_word" "_law_drawn_word" (defArgs s_l_drawn_word) (defBody s_l_drawn_word) (defScope s_l_drawn_word) .none kV14 dc14 pm14 an14 cd14 ct14), sl14⟩)
    (c14 : PySem.W.codeIn K cd14 "_law_drawn_word" = true)
    (k14 : PySem.W.keepIn K (.ref f14) = true)
    (a15 : PySem.W.nsIn K mainGlobals "_law_opposite" = some (some (.ref f15)))
    (l15 : K.lookup f15 = some ⟨oc15, od15, .func (PySem.W.fnOf "_law_opposite" "_law_opposite" (defArgs s_l_opposite) (defBody s_l_opposite) (defScope s_l_opposite) .none kV15 dc15 pm15 an15 cd15 ct15), sl15⟩)
    (c15 : PySem.W.codeIn K cd15 "_law_opposite" = true)
    (k15 : PySem.W.keepIn K (.ref f15) = true)
    (a16 : PySem.W.nsIn K mainGlobals "_law_inverse" = some (some (.ref f16)))
    (l16 : K.lookup f16 = some ⟨oc16, od16, .func (PySem.W.fnOf "_law_inverse" "_law_inverse" (defArgs s_l_inverse) (defBody s_l_inverse) (defScope s_l_inverse) .none kV16 dc16 pm16 an16 cd16 ct16), sl16⟩)
    (c16 : PySem.W.codeIn K cd16 "_law_inverse" = true)
    (k16 : PySem.W.keepIn K (.ref f16) = true)
    (a17 : PySem.W.nsIn K mainGlobals "_law_like" = some (some (.ref f17)))
    (l17 : K.lookup f17 = some ⟨oc17, od17, .func (PySem.W.fnOf "_law_like" "_law_like" (defArgs s_l_like) (defBody s_l_like) (defScope s_l_like) .none kV17 dc17 pm17 an17 cd17 ct17), sl17⟩)
    (c17 : PySem.W.codeIn K cd17 "_law_like" = true)
    (k17 : PySem.W.keepIn K (.ref f17) = true)
    (a18 : PySem.W.nsIn K mainGlobals "_law_field" = some (some (.ref f18)))
    (l18 : K.lookup f18 = some ⟨oc18, od18, .func (PySem.W.fnOf "_law_field" "_law_field" (defArgs s_l_field) (defBody s_l_field) (defScope s_l_field) .none kV18 dc18 pm18 an18 cd18 ct18), sl18⟩)
    (c18 : PySem.W.codeIn K cd18 "_law_field" = true)
    (k18 : PySem.W.keepIn K (.ref f18) = true)
    (a19 : PySem.W.nsIn K mainGlobals "_law_try" = some (some (.ref f19)))
    (l19 : K.lookup f19 = some ⟨oc19, od19, .func (PySem.W.fnOf "_law_try" "_law_try" (defArgs s_l_try) (defBody s_l_try) (defScope s_l_try) .none kV19 dc19 pm19 an19 cd19 ct19), sl19⟩)
    (c19 : PySem.W.codeIn K cd19 "_law_try" = true)
    (k19 : PySem.W.keepIn K (.ref f19) = true)
    (a20 : PySem.W.nsIn K mainGlobals "_law_limited" = some (some (.ref f20)))
    (l20 : K.lookup f20 = some ⟨oc20, od20, .func (PySem.W.fnOf "_law_limited" "_law_limited" (defArgs s_l_limited) (defBody s_l_limited) (defScope s_l_limited) .none kV20 dc20 pm20 an20 cd20 ct20), sl20⟩)
    (c20 : PySem.W.codeIn K cd20 "_law_limited" = true)
    (k20 : PySem.W.keepIn K (.ref f20) = true)
    (a21 : PySem.W.nsIn K mainGlobals "_law_reduced" = some (some (.ref f21)))
    (l21 : K.lookup f21 = some ⟨oc21, od21, .func (PySem.W.fnOf "_law_reduced" "_law_reduced" (defArgs s_l_reduced) (defBody s_l_reduced) (defScope s_l_reduced) .none kV21 dc21 pm21 an21 cd21 ct21), sl21⟩)
    (c21 : PySem.W.codeIn K cd21 "_law_reduced" = true)
    (k21 : PySem.W.keepIn K (.ref f21) = true)
    (a22 : PySem.W.nsIn K mainGlobals "_law_tries" = some (some (.ref f22)))
    (l22 : K.lookup f22 = some ⟨oc22, od22, .func (PySem.W.fnOf "_law_tries" "_law_tries" (defArgs s_l_tries) (defBody s_l_tries) (defScope s_l_tries) .none kV22 dc22 pm22 an22 cd22 ct22), sl22⟩)
    (c22 : PySem.W.codeIn K cd22 "_law_tries" = true)
    (k22 : PySem.W.keepIn K (.ref f22) = true)
    (a23 : PySem.W.nsIn K mainGlobals "_law_limits_so" = some (some (.ref f23)))
    (l23 : K.lookup f23 = some ⟨oc23, od23, .func (PySem.W.fnOf "_law_limits_so" "_law_limits_so" (defArgs s_l_limits_so) (defBody s_l_limits_so) (defScope s_l_limits_so) .none kV23 dc23 pm23 an23 (.ref ca23) ct23), sl23⟩)
    (c23 : PySem.W.codeIn K (.ref ca23) "_law_limits_so" = true)
    (k23 : PySem.W.keepIn K (.ref f23) = true)
    (m23 : K.lookup ca23 = some ⟨ce23, cf23, .fields cv23, cg23⟩)
    (n23 : cv23[11]? = some (.ref Pt23))
    (o23 : PySem.W.codeHdIn K ca23 Pt23 = true)
    (p23 : K.lookup Pt23 = none)
    (h23 : h.get? Pt23 = some { cls := .none, data := .fields #[] })
    (a24 : PySem.W.nsIn K mainGlobals "law" = some (some (.ref f24)))
    (l24 : K.lookup f24 = some ⟨oc24, od24, .func (PySem.W.fnOf "law" "law" (defArgs s_law) (defBody s_law) (defScope s_law) .none kV24 dc24 pm24 an24 (.ref ca24) ct24), sl24⟩)
    (c24 : PySem.W.codeIn K (.ref ca24) "law" = true)
    (k24 : PySem.W.keepIn K (.ref f24) = true)
    (m24 : K.lookup ca24 = some ⟨ce24, cf24, .fields cv24, cg24⟩)
    (n24 : cv24[11]? = some (.ref Pt24))
    (o24 : PySem.W.codeHdIn K ca24 Pt24 = true)
    (p24 : K.lookup Pt24 = none)
    (h24 : h.get? Pt24 = some { cls := .none, data := .fields #[] })
    (qa1 : PySem.W.nsIn K mainGlobals "LETTERS" = some (some (.str "abcdABCD" qt1)))
    (qa2 : PySem.W.nsIn K mainGlobals "MAX_WORD" = some (some (.int 60 qt2)))
    (qa3 : PySem.W.nsIn K mainGlobals "OPPOSITES" = some (some (.ref q3)))
    (ql3 : K.lookup q3 = some ⟨.type "dict", none, .dict qe3 qn3, #[]⟩)
    (qk3 : PySem.W.KeysLit w.params qe3.toList)
    (qv3_0 : PySem.W.nsIn K q3 "a" = some (some (.str "A" qt3_0)))
    (qv3_1 : PySem.W.nsIn K q3 "b" = some (some (.str "B" qt3_1)))
    (qv3_2 : PySem.W.nsIn K q3 "c" = some (some (.str "C" qt3_2)))
    (qv3_3 : PySem.W.nsIn K q3 "d" = some (some (.str "D" qt3_3)))
    (qv3_4 : PySem.W.nsIn K q3 "A" = some (some (.str "a" qt3_4)))
    (qv3_5 : PySem.W.nsIn K q3 "B" = some (some (.str "b" qt3_5)))
    (qv3_6 : PySem.W.nsIn K q3 "C" = some (some (.str "c" qt3_6)))
    (qv3_7 : PySem.W.nsIn K q3 "D" = some (some (.str "d" qt3_7)))
    (th : PySem.W.nsIn K cStatics "thirdparty.any" = some none)
    (tz : PySem.W.nsIn K mainGlobals "super" = some none)
    (tp : (l.prog.main.scope.names.lookup ("super" : Str)).isSome = false)
    (ea1 : PySem.W.nsIn K mainGlobals "HemError" = some (some (.ref C1)))
    (ee1 : PySem.W.subIn K (.ref C1) (.type "BaseException") = some true)
    (et1 : PySem.W.typeIn K (.ref C1) = some (.type "type"))
    (ei1 : PySem.W.isClsIn K C1 = true)
    (ea2 : PySem.W.nsIn K mainGlobals "InvalidWord" = some (some (.ref C2)))
    (ee2 : PySem.W.subIn K (.ref C2) (.type "BaseException") = some true)
    (et2 : PySem.W.typeIn K (.ref C2) = some (.type "type"))
    (ei2 : PySem.W.isClsIn K C2 = true)
    (ea3 : PySem.W.nsIn K mainGlobals "NothingLeft" = some (some (.ref C3)))
    (ee3 : PySem.W.subIn K (.ref C3) (.type "BaseException") = some true)
    (et3 : PySem.W.typeIn K (.ref C3) = some (.type "type"))
    (ei3 : PySem.W.isClsIn K C3 = true)
    (ea4 : PySem.W.nsIn K mainGlobals "TooLong" = some (some (.ref C4)))
    (ee4 : PySem.W.subIn K (.ref C4) (.type "BaseException") = some true)
    (et4 : PySem.W.typeIn K (.ref C4) = some (.type "type"))
    (ei4 : PySem.W.isClsIn K C4 = true)
    (ea5 : PySem.W.nsIn K mainGlobals "UnknownName" = some (some (.ref C5)))
    (ee5 : PySem.W.subIn K (.ref C5) (.type "BaseException") = some true)
    (et5 : PySem.W.typeIn K (.ref C5) = some (.type "type"))
    (ei5 : PySem.W.isClsIn K C5 = true)
    (xL2 : K.lookup C2 = some (excClassObj nm2 qq2 C2 N2 bs2 bm2 true sn2 sub2 ab2 col2 dd2 x02 x12 x22 x32 x52 "ValueError.__new__"))
    (xb2 : PySem.HandSPX.refsVE bm2 = true)
    (xs2 : PySem.W.findIn K (.ref C2) "__setattr__" = some (some (.builtin "object.__setattr__")))
    (xk2 : PySem.W.keepIn K (.ref C2) = true)
    (xi2 : PySem.W.findIn K (.ref C2) "__init__" = some (some (.ref fI2)))
    (xt2 : PySem.W.typeIn K (.ref fI2) = some (.type "function"))
    (xl2 : K.lookup fI2 = some ⟨oC2, oD2, .func (PySem.W.ksFn "__init__" "InvalidWord.__init__" (defArgs ei_InvalidWord) (defBody ei_InvalidWord) (defScope ei_InvalidWord) .none kK2 dC2 pM2 aN2 (.ref cda2) cT2 cc2), oS2⟩)
    (xc2 : PySem.W.codeIn K (.ref cda2) "InvalidWord.__init__" = true)
    (xo2 : K.lookup cda2 = some ⟨ccl2, ccd2, .fields vS2, ccs2⟩)
    (xf2 : ∃ f tf, vS2[2]? = some (.str f tf) ∧ ((l.prog.main.file : Str) == f) = true)
    (xe2 : K.lookup cc2 = some ⟨cL2, cld2, .cell (some (.ref C2)), csl2⟩)
    (xm2 : PySem.W.mroIn K C2 (.ref C2) = some true)
    (xp2 : PySem.W.ks_superIn K C2 C2 "__init__" = some (some (.builtin "ValueError.__init__")))
    (xv2 : PySem.W.subIn K (.ref C2) (.type "ValueError") = some true)
    (xn2 : PySem.W.findIn K (.ref C2) "code" = some none)
    (xq2 : PySem.W.findIn K (.ref C2) "position" = some none)
    (yg2 : PySem.W.findIn K (.ref C2) "__getattribute__" = some (some (.builtin "BaseException.__getattribute__")))
    (yh2 : PySem.W.findIn K (.ref C2) "__getattr__" = some none)
    (yd2 : PySem.W.hasDictIn K C2 = true)
    (y0_2 : PySem.W.subIn K (.ref C2) (.ref C1) = some true)
    (y1_2 : PySem.W.subIn K (.ref C2) (.ref C5) = some false)
    (y2_2 : PySem.W.subIn K (.ref C2) (.ref C3) = some false)
    (xL4 : K.lookup C4 = some (excClassObj nm4 qq4 C4 N4 bs4 bm4 true sn4 sub4 ab4 col4 dd4 x04 x14 x24 x34 x54 "ValueError.__new__"))
    (xb4 : PySem.HandSPX.refsVE bm4 = true)
    (xs4 : PySem.W.findIn K (.ref C4) "__setattr__" = some (some (.builtin "object.__setattr__")))
    (xk4 : PySem.W.keepIn K (.ref C4) = true)
    (xi4 : PySem.W.findIn K (.ref C4) "__init__" = some (some (.ref fI4)))
    (xt4 : PySem.W.typeIn K (.ref fI4) = some (.type "function"))
    (xl4 : K.lookup fI4 = some ⟨oC4, oD4, .func (PySem.W.ksFn "__init__" "TooLong.__init__" (defArgs ei_TooLong) (defBody ei_TooLong) (defScope ei_TooLong) .none kK4 dC4 pM4 aN4 (.ref cda4) cT4 cc4), oS4⟩)
    (xc4 : PySem.W.codeIn K (.ref cda4) "TooLong.__init__" = true)
    (xo4 : K.lookup cda4 = some ⟨ccl4, ccd4, .fields vS4, ccs4⟩)
    (xf4 : ∃ f tf, vS4[2]? = some (.str f tf) ∧ ((l.prog.main.file : Str) == f) = true)
    (xe4 : K.lookup cc4 = some ⟨cL4, cld4, .cell (some (.ref C4)), csl4⟩)
    (xm4 : PySem.W.mroIn K C4 (.ref C4) = some true)
    (xp4 : PySem.W.ks_superIn K C4 C4 "__init__" = some (some (.builtin "ValueError.__init__")))
    (xv4 : PySem.W.subIn K (.ref C4) (.type "ValueError") = some true)
    (xn4 : PySem.W.findIn K (.ref C4) "code" = some none)
    (xq4 : PySem.W.findIn K (.ref C4) "limit" = some none)
    (yg4 : PySem.W.findIn K (.ref C4) "__getattribute__" = some (some (.builtin "BaseException.__getattribute__")))
    (yh4 : PySem.W.findIn K (.ref C4) "__getattr__" = some none)
    (yd4 : PySem.W.hasDictIn K C4 = true)
    (y0_4 : PySem.W.subIn K (.ref C4) (.ref C1) = some true)
    (y1_4 : PySem.W.subIn K (.ref C4) (.ref C5) = some false)
    (y2_4 : PySem.W.subIn K (.ref C4) (.ref C3) = some false)
    (z1 : PySem.W.nsIn K mainGlobals "abs" = some none)
    (z2 : PySem.W.nsIn K mainGlobals "all" = some none)
    (z3 : PySem.W.nsIn K mainGlobals "bool" = some none)
    (z4 : PySem.W.nsIn K mainGlobals "dict" = some none)
    (z5 : PySem.W.nsIn K mainGlobals "enumerate" = some none)
    (z6 : PySem.W.nsIn K mainGlobals "int" = some none)
    (z7 : PySem.W.nsIn K mainGlobals "isinstance" = some none)
    (z8 : PySem.W.nsIn K mainGlobals "len" = some none)
    (z9 : PySem.W.nsIn K mainGlobals "list" = some none)
    (z10 : PySem.W.nsIn K mainGlobals "range" = some none)
    (z11 : PySem.W.nsIn K mainGlobals "str" = some none)
    (z12 : PySem.W.nsIn K mainGlobals "tuple" = some none)
    (hn24_23 : Pt24 ≠ Pt23) :
    LamX.LawAtS l w K CX0 10 63 "_law_script" mg fa h := by
  have e := hfa.symm.trans (PySem.W.mg_of X G a24)
  cases e
  have tb : ∀ p ∈ ([(ca23, Pt23), (ca24, Pt24)] : List (Addr × Addr)), h.get? p.2 = some { cls := .none, data := .fields #[] } ∧ K.lookup p.2 = none ∧ PySem.W.CodeHd h p.1 p.2 := by
    intro p hp
    simp only [List.mem_cons, List.not_mem_nil, or_false] at hp
    rcases hp with rfl | rfl
    · exact ⟨h23, p23, PySem.W.codeHd_of_K X o23⟩
    · exact ⟨h24, p24, PySem.W.codeHd_of_K X o24⟩
  letI : TabNm := ⟨fun a => if a = Pt23 then some (lamQ "_law_limits_so") else if a = Pt24 then some (lamQ "law") else none⟩
  refine ⟨PySem.W.fnOf "law" "law" (defArgs s_law) (defBody s_law) (defScope s_law) .none kV24 dc24 pm24 an24 (.ref ca24) ct24, [(ca23, Pt23), (ca24, Pt24)], spLaw K, ?_, ?_, ?_, fun s v => .of_eq rfl, fun H a ns hl _ hT hS => ⟨a, ns, rfl, hS, hl, ?_, fun _ => rfl⟩, fun base _ _ hB => ?_⟩
  · exact fun p hp => (tb p hp).1
  · exact fun p hp => (tb p hp).2.1
  · exact fun p hp => (tb p hp).2.2
  · intro Q q hq
    have hq : (if Q = Pt23 then some (lamQ "_law_limits_so") else if Q = Pt24 then some (lamQ "law") else none) = some q := hq
    by_cases z23 : Q = Pt23
    · rw [z23]
      exact hT (ca23, Pt23) (by simp)
    rw [if_neg z23] at hq
    by_cases z24 : Q = Pt24
    · rw [z24]
      exact hT (ca24, Pt24) (by simp)
    rw [if_neg z24] at hq
    cases hq
  · exact ok_law (mkTx (l := l) (w := w) X G a1 l1 c1 k1 a2 l2 c2 k2 a3 l3 c3 k3 a4 l4 c4 k4 a5 l5 c5 k5 a6 l6 c6 k6 a7 l7 c7 k7 a8 l8 c8 k8 a9 l9 c9 k9 a10 l10 c10 k10 a11 l11 c11 k11 a12 l12 c12 k12 a13 l13 c13 k13 a14 l14 c14 k14 a15 l15 c15 k15 a16 l16 c16 k16 a17 l17 c17 k17 a18 l18 c18 k18 a19 l19 c19 k19 a20 l20 c20 k20 a21 l21 c21 k21 a22 l22 c22 k22 a23 l23 c23 k23 m23 n23 o23 p23 h23 a24 l24 c24 k24 m24 n24 o24 p24 h24 qa1 qa2 qa3 ql3 qk3 qv3_0 qv3_1 qv3_2 qv3_3 qv3_4 qv3_5 qv3_6 qv3_7 th tz tp ea1 ee1 et1 ei1 ea2 ee2 et2 ei2 ea3 ee3 et3 ei3 ea4 ee4 et4 ei4 ea5 ee5 et5 ei5 xL2 xb2 xs2 xk2 xi2 xt2 xl2 xc2 xo2 xf2 xe2 xm2 xp2 xv2 xn2 xq2 yg2 yh2 yd2 y0_2 y1_2 y2_2 xL4 xb4 xs4 xk4 xi4 xt4 xl4 xc4 xo4 xf4 xe4 xm4 xp4 xv4 xn4 xq4 yg4 yh4 yd4 y0_4 y1_4 y2_4 z1 z2 z3 z4 z5 z6 z7 z8 z9 z10 z11 z12 hn24_23) (hB (ca23, Pt23) (by simp)) (if_pos rfl) (hB (ca24, Pt24) (by simp)) ((if_neg hn24_23).trans (if_pos rfl))
theorem walk {l : PySem.W.OpenLaw} {q : Program} {loose : List Str} {XP : (Str → Option Value) → Heap → Prop} {YP : World → Heap → Prop} {d : DefRec} {K : Params → PySem.W.Frag} (hn : l.most = some 63) (hdf : d.params.defaults = [])
    (hY : ∀ (w : World) (h : Heap), YP w h → (K w.params).In h)
    (F : ∀ (w : World) (mg : Str → Option Value) (fa : Addr) (h : Heap), YP w h → (K w.params).In h → h.Ns mainGlobals mg → mg d.name = some (.ref fa) → LamX.LawAtS l w (K w.params) CX0 10 63 "_law_script" mg fa h) :
    PySem.W.WalkO q loose XP YP l.row.toRowW d [] (fun f vs => PySem.call f vs) :=
  LamX.walk_ofTs (n := 63) (k := 10) (x := "_law_script") (CX := fun _ => CX0) hn (by decide) hdf ⟨rfl, by decide, by decide⟩ hY F fun _ _ _ _ _ z => z
end G218
open PySem PySem.W PyProof.Rows
set_option maxRecDepth 100000 in
set_option maxHeartbeats 0 in
theorem PySem.Challenge.cw_hemprice_k04_powers_and_commutators_holds : PySem.Challenge.rw_hemprice_k04_powers_and_commutators.Holds := by
  w_on; o_law; k_head; (case hw => w_witness2)
  k_fill
  refine G218.walk (l := PySem.Challenge.rw_hemprice_k04_powers_and_commutators) rfl rfl (fun w h Y => PySem.W.km_in_of Y) ?F
  case F =>
    intro w mg fa h Y KX G hmg
    refine' G218.all_mk (l := PySem.Challenge.rw_hemprice_k04_powers_and_commutators) KX G hmg ?a1 ?l1 ?c1 ?k1 ?a2 ?l2 ?c2 ?k2 ?a3 ?l3 ?c3 ?k3 ?a4 ?l4 ?c4 ?k4 ?a5 ?l5 ?c5 ?k5 ?a6 ?l6 ?c6 ?k6 ?a7 ?l7 ?c7 ?k7 ?a8 ?l8 ?c8 ?k8 ?a9 ?l9 ?c9 ?k9 ?a10 ?l10 ?c10 ?k10 ?a11 ?l11 ?c11 ?k11 ?a12 ?l12 ?c12 ?k12 ?a13 ?l13 ?c13 ?k13 ?a14 ?l14 ?c14 ?k14 ?a15 ?l15 ?c15 ?k15 ?a16 ?l16 ?c16 ?k16 ?a17 ?l17 ?c17 ?k17 ?a18 ?l18 ?c18 ?k18 ?a19 ?l19 ?c19 ?k19 ?a20 ?l20 ?c20 ?k20 ?a21 ?l21 ?c21 ?k21 ?a22 ?l22 ?c22 ?k22 ?a23 ?l23 ?c23 ?k23 ?m23 ?n23 ?o23 ?p23 ?h23 ?a24 ?l24 ?c24 ?k24 ?m24 ?n24 ?o24 ?p24 ?h24 ?qa1 ?qa2 ?qa3 ?ql3 ?qk3 ?qv3_0 ?qv3_1 ?qv3_2 ?qv3_3 ?qv3_4 ?qv3_5 ?qv3_6 ?qv3_7 ?th ?tz ?tp ?ea1 ?ee1 ?et1 ?ei1 ?ea2 ?ee2 ?et2 ?ei2 ?ea3 ?ee3 ?et3 ?ei3 ?ea4 ?ee4 ?et4 ?ei4 ?ea5 ?ee5 ?et5 ?ei5 ?xL2 ?xb2 ?xs2 ?xk2 ?xi2 ?xt2 ?xl2 ?xc2 ?xo2 ?xf2 ?xe2 ?xm2 ?xp2 ?xv2 ?xn2 ?xq2 ?yg2 ?yh2 ?yd2 ?y0_2 ?y1_2 ?y2_2 ?xL4 ?xb4 ?xs4 ?xk4 ?xi4 ?xt4 ?xl4 ?xc4 ?xo4 ?xf4 ?xe4 ?xm4 ?xp4 ?xv4 ?xn4 ?xq4 ?yg4 ?yh4 ?yd4 ?y0_4 ?y1_4 ?y2_4 ?z1 ?z2 ?z3 ?z4 ?z5 ?z6 ?z7 ?z8 ?z9 ?z10 ?z11 ?z12 ?hn24_23
    (case a1 => k_is)
    (case l1 => k_is)
    (case c1 => k_is)
    (case k1 => k_is)
    (case a2 => k_is)
    (case l2 => k_is)
    (case c2 => k_is)
    (case k2 => k_is)
    (case a3 => k_is)
    (case l3 => k_is)
    (case c3 => k_is)
    (case k3 => k_is)
    (case a4 => k_is)
    (case l4 => k_is)
    (case c4 => k_is)
    (case k4 => k_is)
    (case a5 => k_is)
    (case l5 => k_is)
    (case c5 => k_is)
    (case k5 => k_is)
    (case a6 => k_is)
    (case l6 => k_is)
    (case c6 => k_is)
    (case k6 => k_is)
    (case a7 => k_is)
    (case l7 => k_is)
    (case c7 => k_is)
    (case k7 => k_is)
    (case a8 => k_is)
    (case l8 => k_is)
    (case c8 => k_is)
    (case k8 => k_is)
    (case a9 => k_is)
    (case l9 => k_is)
    (case c9 => k_is)
    (case k9 => k_is)
    (case a10 => k_is)
    (case l10 => k_is)
    (case c10 => k_is)
    (case k10 => k_is)
    (case a11 => k_is)
    (case l11 => k_is)
    (case c11 => k_is)
    (case k11 => k_is)
    (case a12 => k_is)
    (case l12 => k_is)
    (case c12 => k_is)
    (case k12 => k_is)
    (case a13 => k_is)
    (case l13 => k_is)
    (case c13 => k_is)
    (case k13 => k_is)
    (case a14 => k_is)
    (case l14 => k_is)
    (case c14 => k_is)
    (case k14 => k_is)
    (case a15 => k_is)
    (case l15 => k_is)
    (case c15 => k_is)
    (case k15 => k_is)
    (case a16 => k_is)
    (case l16 => k_is)
    (case c16 => k_is)
    (case k16 => k_is)
    (case a17 => k_is)
    (case l17 => k_is)
    (case c17 => k_is)
    (case k17 => k_is)
    (case a18 => k_is)
    (case l18 => k_is)
    (case c18 => k_is)
    (case k18 => k_is)
    (case a19 => k_is)
    (case l19 => k_is)
    (case c19 => k_is)
    (case k19 => k_is)
    (case a20 => k_is)
    (case l20 => k_is)
    (case c20 => k_is)
    (case k20 => k_is)
    (case a21 => k_is)
    (case l21 => k_is)
    (case c21 => k_is)
    (case k21 => k_is)
    (case a22 => k_is)
    (case l22 => k_is)
    (case c22 => k_is)
    (case k22 => k_is)
    (case a23 => k_is)
    (case l23 => k_is)
    (case c23 => k_is)
    (case k23 => k_is)
    (case m23 => k_is)
    (case n23 => exact rfl)
    (case o23 => kernel_rfl)
    (case p23 => kernel_rfl)
    (case h23 => exact PySem.W.km_tabs_of Y _ (by decide))
    (case a24 => k_is)
    (case l24 => k_is)
    (case c24 => k_is)
    (case k24 => k_is)
    (case m24 => k_is)
    (case n24 => exact rfl)
    (case o24 => kernel_rfl)
    (case p24 => kernel_rfl)
    (case h24 => exact PySem.W.km_tabs_of Y _ (by decide))
    (case qa1 => k_is)
    (case qa2 => k_is)
    (case qa3 => k_is)
    (case ql3 => k_is)
    (case qk3 => (repeat (first | exact trivial | refine ⟨⟨_, _, rfl, rfl⟩, ?_⟩)))
    (case qv3_0 => k_is)
    (case qv3_1 => k_is)
    (case qv3_2 => k_is)
    (case qv3_3 => k_is)
    (case qv3_4 => k_is)
    (case qv3_5 => k_is)
    (case qv3_6 => k_is)
    (case qv3_7 => k_is)
    (case th => k_is)
    (case tz => k_is)
    (case tp => exact rfl)
    (case ea1 => k_is)
    (case ee1 => k_is)
    (case et1 => k_is)
    (case ei1 => k_is)
    (case ea2 => k_is)
    (case ee2 => k_is)
    (case et2 => k_is)
    (case ei2 => k_is)
    (case ea3 => k_is)
    (case ee3 => k_is)
    (case et3 => k_is)
    (case ei3 => k_is)
    (case ea4 => k_is)
    (case ee4 => k_is)
    (case et4 => k_is)
    (case ei4 => k_is)
    (case ea5 => k_is)
    (case ee5 => k_is)
    (case et5 => k_is)
    (case ei5 => k_is)
    (case xL2 => k_is)
    (case xb2 => decide +kernel)
    (case xs2 => k_is)
    (case xk2 => k_is)
    (case xi2 => k_is)
    (case xt2 => k_is)
    (case xl2 => k_is)
    (case xc2 => k_is)
    (case xo2 => k_is)
    (case xf2 => exact ⟨_, _, rfl, rfl⟩)
    (case xe2 => k_is)
    (case xm2 => k_is)
    (case xp2 => ks_is)
    (case xv2 => k_is)
    (case xn2 => k_is)
    (case xq2 => k_is)
    (case yg2 => k_is)
    (case yh2 => k_is)
    (case yd2 => k_is)
    (case y0_2 => k_is)
    (case y1_2 => k_is)
    (case y2_2 => k_is)
    (case xL4 => k_is)
    (case xb4 => decide +kernel)
    (case xs4 => k_is)
    (case xk4 => k_is)
    (case xi4 => k_is)
    (case xt4 => k_is)
    (case xl4 => k_is)
    (case xc4 => k_is)
    (case xo4 => k_is)
    (case xf4 => exact ⟨_, _, rfl, rfl⟩)
    (case xe4 => k_is)
    (case xm4 => k_is)
    (case xp4 => ks_is)
    (case xv4 => k_is)
    (case xn4 => k_is)
    (case xq4 => k_is)
    (case yg4 => k_is)
    (case yh4 => k_is)
    (case yd4 => k_is)
    (case y0_4 => k_is)
    (case y1_4 => k_is)
    (case y2_4 => k_is)
    (case z1 => k_is)
    (case z2 => k_is)
    (case z3 => k_is)
    (case z4 => k_is)
    (case z5 => k_is)
    (case z6 => k_is)
    (case z7 => k_is)
    (case z8 => k_is)
    (case z9 => k_is)
    (case z10 => k_is)
    (case z11 => k_is)
    (case z12 => k_is)
    (case hn24_23 => decide)
#print axioms PySem.Challenge.cw_hemprice_k04_powers_and_commutators_holds
