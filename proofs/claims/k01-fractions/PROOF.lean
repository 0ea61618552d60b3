import PyProof.Rows.All
import Wide.All
import OpenK.AllK
import Wide.FinOn
import HandS.ForMost
import HandS.Flow
import HandS.IsInst
import HandS.Wide
import HandS.FStr
import HandS.Style
import HandS.Small
import HandS.Defaults
import HandS.Evl
import HandS.Walk
import PySem.Challenge.RW_hemprice_k01_fractions
set_option Elab.async false
set_option linter.all false
set_option maxRecDepth 100000
set_option maxHeartbeats 4000000
namespace G
open PySem L2
abbrev Fr := PySem.W.Frag
/-! data: what stands in the part of the heap that is never written again -/
theorem seqT {K : Fr} {H H' : Hp} {a : Addr} {xs : List V} (e : Same H H') (h : SqT K H a xs) : SqT K H' a xs := by
  rcases h with (h | ⟨o, h⟩) | h
  · exact .inl (.inl (e _ _ h))
  · exact .inl (.inr ⟨o, e _ _ h⟩)
  · exact .inr h
mutual
theorem dpMono {K : Fr} {I J : Hp} (e : Same I J) : ∀ (d : PyData) (v : V), Dp K I v d → Dp K J v d
  | .none, _, h => by cases h; exact .non
  | .bool _, _, h => by cases h; exact .bl _
  | .int _, _, h => by cases h; exact .int _
  | .str _, _, h => by cases h; exact .str _
  | .list ds, _, h => by
    cases h with
    | lst hs ha => exact .lst (e.seq hs) (dpMonoAll e ds _ ha)
  | .tuple ds, _, h => by
    cases h with
    | tup hs ha => exact .tup (seqT e hs) (dpMonoAll e ds _ ha)
  | .dict _, _, h => by cases h
theorem dpMonoAll {K : Fr} {I J : Hp} (e : Same I J) : ∀ (ds : List PyData) (vs : List V), DpAll K I vs ds → DpAll K J vs ds
  | [], _, h => by cases h; exact .nil
  | d :: ds, _, h => by
    cases h with
    | cons h1 h2 => exact .cons (dpMono e d _ h1) (dpMonoAll e ds _ h2)
end
theorem dpm {K : Fr} {I J : Hp} {d : PyData} {v : V} (h : Dp K I v d) (e : Same I J) : Dp K J v d := dpMono e d v h
theorem dpmA {K : Fr} {I J : Hp} {ds : List PyData} {vs : List V} (h : DpAll K I vs ds) (e : Same I J) : DpAll K J vs ds := dpMonoAll e ds vs h
theorem dpLen {K : Fr} {I : Hp} : ∀ {vs : List V} {ds : List PyData}, DpAll K I vs ds → vs.length = ds.length
  | _, _, .nil => rfl
  | _, _, .cons _ t => congrArg Nat.succ (dpLen t)
theorem dpGet {K : Fr} {I : Hp} : ∀ {vs : List V} {ds : List PyData}, DpAll K I vs ds → ∀ {i : Nat} {d : PyData}, ds[i]? = some d → ∃ v, vs[i]? = some v ∧ Dp K I v d
  | _, _, .nil, i, d, h => by simp at h
  | _, _, .cons r t, 0, d, h => by simp at h; subst h; exact ⟨_, rfl, r⟩
  | _, _, .cons r t, i + 1, d, h => by
    obtain ⟨v, h1, h2⟩ := dpGet t (i := i) (d := d) (by simpa using h)
    exact ⟨v, by simpa using h1, h2⟩
theorem dpGetV {K : Fr} {I : Hp} : ∀ {vs : List V} {ds : List PyData}, DpAll K I vs ds → ∀ {i : Nat} {v : V}, vs[i]? = some v → ∃ d, ds[i]? = some d ∧ Dp K I v d
  | _, _, .nil, i, d, h => by simp at h
  | _, _, .cons r t, 0, d, h => by simp at h; subst h; exact ⟨_, rfl, r⟩
  | _, _, .cons r t, i + 1, d, h => by
    obtain ⟨v, h1, h2⟩ := dpGetV t (i := i) (v := d) (by simpa using h)
    exact ⟨v, by simpa using h1, h2⟩
theorem dpAppend {K : Fr} {I : Hp} : ∀ {vs ws : List V} {ds es : List PyData}, DpAll K I vs ds → DpAll K I ws es → DpAll K I (vs ++ ws) (ds ++ es)
  | _, _, _, _, .nil, h => h
  | _, _, _, _, .cons r t, h => .cons r (dpAppend t h)
/-! growth: I the part that stands still, H the whole -/
structure Gr (I H I' H' : Hp) : Prop where
  im : Same I I'
  ok : Same I' H'
  fr : ∀ a, I a = none → H a ≠ none → I' a = none
theorem Gr.refl {I H : Hp} (h : Same I H) : Gr I H I H := ⟨fun _ _ e => e, h, fun _ e _ => e⟩
/-- nothing written: what stood stands -/
structure Pu (I H I' H' : Hp) : Prop extends Gr I H I' H' where
  sm : Same H H'
theorem Pu.refl {I H : Hp} (h : Same I H) : Pu I H I H := ⟨Gr.refl h, fun _ _ e => e⟩
theorem Pu.trans {I H I1 H1 I2 H2 : Hp} (a : Pu I H I1 H1) (b : Pu I1 H1 I2 H2) : Pu I H I2 H2 :=
  ⟨⟨fun x o e => b.im x o (a.im x o e), b.ok, fun x e n => b.fr x (a.fr x e n) fun z => by
    cases q : H x with
    | none => exact n q
    | some o => rw [a.sm x o q] at z; cases z⟩, fun x o e => b.sm x o (a.sm x o e)⟩
theorem sameUpd {I H : Hp} {p : Addr} {o : HO} (h : Same I H) (hp : H p = none) : Same I (upd I p o) := fun a u e => by
  rw [upd_ne (ne_of_none (h a u e) hp)]; exact e
theorem sameNew {H : Hp} {p : Addr} {o : HO} (hp : H p = none) : Same H (upd H p o) := fun a u e => by
  rw [upd_ne (ne_of_none e hp)]; exact e
theorem sameBoth {I H : Hp} {p : Addr} {o : HO} (h : Same I H) : Same (upd I p o) (upd H p o) := fun a u e => by
  by_cases q : a = p
  · subst q; rw [upd_same] at e ⊢; exact e
  · rw [upd_ne q] at e ⊢; exact h a u e
/-- a new thing that stands still from now on -/
theorem Pu.new {I H : Hp} {p : Addr} {o : HO} (h : Same I H) (hp : H p = none) : Pu I H (upd I p o) (upd H p o) :=
  ⟨⟨sameUpd h hp, sameBoth h, fun a e n => by
    by_cases q : a = p
    · subst q; exact absurd hp n
    · rw [upd_ne q]; exact e⟩, sameNew hp⟩
/-- a new thing that may be written -/
theorem Pu.newM {I H : Hp} {p : Addr} {o : HO} (h : Same I H) (hp : H p = none) : Pu I H I (upd H p o) :=
  ⟨⟨fun _ _ e => e, fun a u e => sameNew hp a u (h a u e), fun _ e _ => e⟩, sameNew hp⟩
theorem dpNewT {K : Fr} {I : Hp} {p : Addr} {vs : List V} {ds : List PyData} (h : DpAll K (upd I p (.tup vs)) vs ds) : Dp K (upd I p (.tup vs)) (.ref p) (.tuple ds) := .tup (SqT.of upd_same) h
theorem dpNewL {K : Fr} {I : Hp} {p : Addr} {vs : List V} {ds : List PyData} (h : DpAll K (upd I p (.lst vs)) vs ds) : Dp K (upd I p (.lst vs)) (.ref p) (.list ds) := .lst (SqL.of upd_same) h
theorem absI (n : Int) : (if n < 0 then -n else n) = (n.natAbs : Int) := by split <;> omega
theorem list2 {α : Type} {l : List α} (h : l.length = 2) : ∃ a b, l = [a, b] := by
  match l, h with
  | [a, b], _ => exact ⟨a, b, rfl⟩
theorem dpA2 {K : Fr} {I : Hp} {xs : List V} {d1 d2 : PyData} (h : DpAll K I xs [d1, d2]) : ∃ v1 v2, xs = [v1, v2] ∧ Dp K I v1 d1 ∧ Dp K I v2 d2 := by
  cases h with
  | cons h1 h2 =>
    cases h2 with
    | cons h2 h3 =>
      cases h3
      exact ⟨_, _, rfl, h1, h2⟩
theorem strLenApp (a b : Str) : (a ++ b).length = a.length + b.length := by
  show (a.cps ++ b.cps).size = a.cps.size + b.cps.size
  exact Array.size_append
theorem strEmptyApp (a : Str) : Str.empty ++ a = a := by
  show (⟨Str.empty.cps ++ a.cps⟩ : Str) = a
  cases a
  simp [Str.empty]
theorem intLen {i : Int} (h : i.natAbs.log2 < 1920) : (Str.ofString (toString i)).length ≤ 1921 := PyProof.Rows.int_text_len_1921 h
theorem cmulc {i j : Int} (h : -(2 ^ 64) < j) (h2 : j < 2 ^ 64) : CMul i j := .inr ⟨h, h2⟩
theorem cmulc' {i j : Int} (h : -(2 ^ 64) < i) (h2 : i < 2 ^ 64) : CMul i j := .inl ⟨h, h2⟩
theorem lg_lt {n : Int} {k : Nat} (h : n.natAbs < 2 ^ k) (hk : 0 < k) : n.natAbs.log2 < k := PySem.Flt.log2_lt_of hk h
theorem lg9 {n : Int} (h : n.natAbs < 2 ^ 100) : n.natAbs.log2 < 9000 := Nat.lt_trans (lg_lt h (by decide)) (by decide)
def rLenV (K : Fr) : List V → Hp → VK → Prop := fun xs H Q => ∃ x n, xs = [x] ∧ LenV K x H n ∧ Q (.int (n : Nat)) H
def rLenQ (K : Fr) : List V → Hp → VK → Prop := fun xs H Q => ∃ p ys, xs = [.ref p] ∧ (SqL K H p ys ∨ SqT K H p ys) ∧ Q (.int ((ys.length : Nat) : Int)) H
/-! a called def -/
structure Cal (P : Program) (w : World) (K : Fr) (mg : Str → Option Value) (base : Heap) (CX : CXT) (k : Nat) (x : Str) (f : Addr) (fd : FuncData) (ps : List Str) (sp : Sp) : Prop where
  ok : FnOk P w K mg base CX k f fd ps sp
  g : mg x = some (.ref f)
  kp : PySem.W.keepIn K (.ref f) = true
  b : Binds K fd ps []
section
variable {X : Cx} {x : Str} {p pos : Pos} {e : Expr} {es : List Expr} {t : TA} {k : Nat} {f : Addr} {fd : FuncData} {ps : List Str} {sp : Sp}
theorem pe_cal (C : Cal X.prog X.w X.K X.mg X.base CX0 k x f fd ps sp) (hr : Room k X.A) (ha : PA X (e :: es) t) (hg : Gl X x := by rfl) (hdb : (x == ("__debug__" : Str)) = false := by decide)
    (he : starEach (e :: es) X.env = (false, eval e X.env) :: starEach es X.env := by rfl) (hpl : (backTo pos (starEach es X.env)).any (·.1) = false := by rfl) :
    PE X (.Call (.Name x p) (e :: es) [] pos) (tCall sp [] E0 t) := pe_call C.ok hr hg C.g C.kp C.b .nil pass0 ha hdb he hpl
end
/-- a def with defaults, called with fewer values, or by keywords -/
structure CalD (P : Program) (w : World) (K : Fr) (mg : Str → Option Value) (base : Heap) (CX : CXT) (k : Nat) (x : Str) (f : Addr) (fd : FuncData) (ps : List Str) (sp : Sp) (dvs : List V) : Prop where
  ok : FnOk P w K mg base CX k f fd ps sp
  g : mg x = some (.ref f)
  kp : PySem.W.keepIn K (.ref f) = true
  b : ∃ ds, Vals dvs ds ∧ Binds K fd ps ds
structure CalK (P : Program) (w : World) (K : Fr) (mg : Str → Option Value) (base : Heap) (CX : CXT) (k : Nat) (x : Str) (f : Addr) (fd : FuncData) (ps : List Str) (sp : Sp) (n : Nat) (ks : List Str) (gV : List V → List V → List V) : Prop where
  ok : FnOk P w K mg base CX k f fd ps sp
  g : mg x = some (.ref f)
  kp : PySem.W.keepIn K (.ref f) = true
  b : ∃ g, KBn K fd ps n ks g gV
theorem kbinds1 {K : Fr} {x qual : Str} {params : Arguments} {body : List Stmt} {scope : Scope} {dvs : List V} {f : Addr} {fd : FuncData} {ps : List Str} (F : FunD K x qual params body scope dvs [] f fd) (n : Nat) (ks : List Str) (g : {α : Type} → List α → List α → List α → List α) (hd : dvs ≠ [])
    (hrel : ∀ {vs ds zs : List V} {us its ws : List Value}, Vals vs us → Vals ds its → Vals zs ws → Vals (g vs ds zs) (g us its ws))
    (h : ∀ (T : Addr) (kV doc pm : Value) (an : Option Addr) (cdv ct : Value) (us its ws : List Value), us.length = n → its.length = dvs.length → ws.length = ks.length →
      ∃ k, bindArgs (PySem.W.fnOf x qual params body scope (.ref T) kV doc pm an cdv ct) ⟨us, ks.zip ws⟩ = seqItems? (.ref T) >>= k ∧ k (some its.toArray) = pure (ps.zip (g us its ws))) :
    ∃ gg, KBn K fd ps n ks gg (fun vs zs => g vs dvs zs) := by
  obtain ⟨oc, od, dV, kV, doc, pm, an, cdv, ct, osl, rfl, lk, hcd, hD, hK⟩ := F.ex
  rcases hD with ⟨e, _⟩ | ⟨_, T, o, its, m, rfl, lT, oT, rT⟩
  · exact absurd e hd
  · refine ⟨fun us ws => g us its ws, ⟨fun s us ws X l1 l2 => ?_, fun r1 r2 => hrel r1 rT r2⟩⟩
    obtain ⟨k, e1, e2⟩ := h T kV doc pm an cdv ct us its ws l1 rT.length.symm l2
    refine BindsTo.of_looks fun M => ?_
    rw [e1]
    exact looks_items X lT oT (.of_pure e2)
section
variable {X : Cx} {x : Str} {p pos : Pos} {e : Expr} {es : List Expr} {t tk : TA} {k n : Nat} {f : Addr} {fd : FuncData} {ps ks : List Str} {sp : Sp} {dvs : List V} {kws : List Keyword} {gV : List V → List V → List V}
theorem pe_calD (C : CalD X.prog X.w X.K X.mg X.base CX0 k x f fd ps sp dvs) (hr : Room k X.A) (ha : PA X (e :: es) t) (hg : Gl X x := by rfl) (hdb : (x == ("__debug__" : Str)) = false := by decide)
    (he : starEach (e :: es) X.env = (false, eval e X.env) :: starEach es X.env := by rfl) (hpl : (backTo pos (starEach es X.env)).any (·.1) = false := by rfl) :
    PE X (.Call (.Name x p) (e :: es) [] pos) (tCall sp dvs E0 t) := by
  obtain ⟨ds, hv, hb⟩ := C.b
  exact pe_call C.ok hr hg C.g C.kp hb hv pass0 ha hdb he hpl
theorem pe_calK (C : CalK X.prog X.w X.K X.mg X.base CX0 k x f fd ps sp n ks gV) (hr : Room k X.A) (ha : PA X (e :: es) t) (hkw : PK X kws tk) (hg : Gl X x := by rfl)
    (hall : (backToKw pos (keywordEach kws X.env)).all (·.1.isSome) = true := by rfl) (hks : (backToKw pos (keywordEach kws X.env)).filterMap (·.1) = ks := by rfl)
    (hdb : (x == ("__debug__" : Str)) = false := by decide) (he : starEach (e :: es) X.env = (false, eval e X.env) :: starEach es X.env := by rfl)
    (hpl : ((backTo pos (starEach (e :: es) X.env)).any (·.1) || (backToKw pos (keywordEach kws X.env)).any (·.1.isNone)) = false := by rfl) :
    PE X (.Call (.Name x p) (e :: es) kws pos) (tCallN n ks.length sp gV E0 t tk) := by
  obtain ⟨g, hb⟩ := C.b
  exact pe_callN C.ok hr hg C.g C.kp hb pass0 ha hkw hall hks hdb he hpl
end
theorem pe_gref {X : Cx} {x : Str} {a : Addr} {pos : Pos} (hg : Gl X x) (hm : X.mg x = some (.ref a)) (hd : (x == ("__debug__" : Str)) = false := by decide) : PE X (.Name x pos) (tC (.ref a)) := pe_glob hg hm rfl hd
theorem pe_gint {X : Cx} {x : Str} {n : Int} {pos : Pos} (hg : Gl X x) (hm : ∃ t, X.mg x = some (.int n t)) (hd : (x == ("__debug__" : Str)) = false := by decide) : PE X (.Name x pos) (tC (.int n)) := by
  obtain ⟨t, h⟩ := hm
  exact pe_glob hg h ⟨t, rfl⟩ hd
theorem pe_gstr {X : Cx} {x : Str} {n : Str} {pos : Pos} (hg : Gl X x) (hm : ∃ t, X.mg x = some (.str n t)) (hd : (x == ("__debug__" : Str)) = false := by decide) : PE X (.Name x pos) (tC (.str n)) := by
  obtain ⟨t, h⟩ := hm
  exact pe_glob hg h ⟨t, rfl⟩ hd
theorem pe_tyN {X : Cx} {x : Str} {pos : Pos} (n : String) (hg : Gl X x) (hm : X.mg x = none) (hv : bootBuiltins x = some (.type n)) (hn : x ≠ "__name__" := by decide) (hd : (x == ("__debug__" : Str)) = false := by decide) : PE X (.Name x pos) (tC (.ty n)) := pe_bltn hg hm hv rfl hn hd
/-! readings, a step at a time -/
section
variable {K : Fr} {σ : St} {H : Hp} {Q : VK} {i : Nat} {v x y : V} {D : Ends} {a b p : Addr} {xs ys : List V}
theorem w_var (h : σ[i]? = some (some v)) (q : Q v H) : tVar i σ H Q := ⟨v, h, q⟩
theorem w_c (q : Q v H) : tC v σ H Q := q
theorem w_I0 {g : Int → Int → V} {m n : Int} (q : Q (g m n) H) : rI0 g (.int m) (.int n) H Q := ⟨m, n, rfl, rfl, q⟩
theorem w_I {C : Int → Int → Prop} {g : Int → Int → V} {m n : Int} (c : C m n) (q : Q (g m n) H) : rI C g (.int m) (.int n) H Q := ⟨m, n, rfl, rfl, c, q⟩
theorem w_U {g : Int → V} {m : Int} (q : Q (g m) H) : rU g (.int m) H Q := ⟨m, rfl, q⟩
theorem w_eq (h : scal x y = true) (q : Q (.bl (decide (x = y))) H) : rEq x y H Q := ⟨h, q⟩
theorem w_ne (h : scal x y = true) (q : Q (.bl (!decide (x = y))) H) : rNe x y H Q := ⟨h, q⟩
theorem w_ixL {m : Int} (h : SqL K H p xs) (e : atI xs m = some v) (q : Q v H) : rIxL K (.ref p) (.int m) H Q := ⟨p, xs, m, v, rfl, rfl, h, e, q⟩
theorem w_ixT {m : Int} (h : SqT K H p xs) (e : atI xs m = some v) (q : Q v H) : rIxT K (.ref p) (.int m) H Q := ⟨p, xs, m, v, rfl, rfl, h, e, q⟩
theorem w_setL {m : Int} {j : Nat} {R : Hp → Prop} (h : H p = some (.lst xs)) (e : ixN xs.length m = some j) (q : R (upd H p (.lst (xs.set j v)))) : rSetL (.ref p) (.int m) v H R := ⟨p, xs, m, j, rfl, rfl, h, e, q⟩
theorem w_eqD {d e : PyData} (h1 : Dp K H x d) (h2 : Dp K H y e) (s1 : SeqAt.shaped d = true) (s2 : SeqAt.shaped e = true) (q : Q (.bl (PyData.eqv d e)) H) : rEqD K x y H Q := ⟨d, e, h1, h2, s1, s2, q⟩
theorem w_neD {d e : PyData} (h1 : Dp K H x d) (h2 : Dp K H y e) (s1 : SeqAt.shaped d = true) (s2 : SeqAt.shaped e = true) (q : Q (.bl (!PyData.eqv d e)) H) : rNeD K x y H Q := ⟨d, e, h1, h2, s1, s2, q⟩
theorem w_tup {t : TA} (h : t σ H fun xs H1 => xs.length ≤ sizeLine ∧ ∀ p, H1 p = none → Q (.ref p) (upd H1 p (.tup xs))) : tTup t σ H Q := h
/-- a test -/
theorem w_test {c : Bool} {R : Bool → Hp → Prop} (q : R c H) : ∃ k, V.bl c = .bl k ∧ R k H := ⟨c, rfl, q⟩
theorem ifB {c : Prop} [Decidable c] {A B : Prop} (h1 : c → A) (h2 : ¬ c → B) : if decide c = true then A else B := by
  by_cases h : c
  · rw [if_pos (decide_eq_true h)]; exact h1 h
  · rw [if_neg (by simpa using h)]; exact h2 h
theorem ifNB {c : Prop} [Decidable c] {A B : Prop} (h1 : ¬ c → A) (h2 : c → B) : if (!decide c) = true then A else B := by
  by_cases h : c
  · rw [if_neg (by simpa using h)]; exact h2 h
  · rw [if_pos (by simpa using h)]; exact h1 h
theorem ifBool {c : Bool} {A B : Prop} (h1 : c = true → A) (h2 : c = false → B) : if c = true then A else B := by
  cases c with
  | true => rw [if_pos rfl]; exact h1 rfl
  | false => rw [if_neg (by decide)]; exact h2 rfl
theorem ifP {c : Prop} [Decidable c] {A B : Prop} (h : c) (q : A) : if c then A else B := by rw [if_pos h]; exact q
theorem ifN {c : Prop} [Decidable c] {A B : Prop} (h : ¬ c) (q : B) : if c then A else B := by rw [if_neg h]; exact q
theorem ifBT {c : Bool} {A B : Prop} (h : c = true) (q : A) : if c = true then A else B := by rw [if_pos h]; exact q
theorem ifBF {c : Bool} {A B : Prop} (h : c = false) (q : B) : if c = true then A else B := by rw [if_neg (by rw [h]; decide)]; exact q
end
/-! what isinstance sees of data -/
def tyD : PyData → String
  | .none => "NoneType"
  | .bool _ => "bool"
  | .int _ => "int"
  | .str _ => "str"
  | .list _ => "list"
  | .tuple _ => "tuple"
  | .dict _ => "dict"
theorem tyxL {K : Fr} {H : Hp} {a : Addr} {xs : List V} (h : SqL K H a xs) : TyX K H (.ref a) (.type "list") := by
  rcases h with (h | ⟨o, h⟩) | ⟨o, its, n, h, hc, _⟩
  · exact .base (.lst h)
  · exact .base (.frz h)
  · exact .kList h hc
theorem tyxT {K : Fr} {H : Hp} {a : Addr} {xs : List V} (h : SqT K H a xs) : TyX K H (.ref a) (.type "tuple") := by
  rcases h with (h | ⟨o, h⟩) | ⟨o, its, n, h, hc, _⟩
  · exact .base (.tup h)
  · exact .fTuple h
  · exact .kTuple h hc
theorem tyx {K : Fr} {H : Hp} {v : V} {d : PyData} (h : Dp K H v d) : TyX K H v (.type (tyD d)) := by
  cases h with
  | non => exact .base .non
  | bl b => exact .base (.bl b)
  | int i => exact .base (.int i)
  | str x => exact .base (.str x)
  | lst h _ => exact tyxL h
  | tup h _ => exact tyxT h
def isB (c : String) (d : PyData) : Bool := (kitB (tyD d) c).getD false
theorem isB_dict_none : isB "dict" .none = false := by simp only [isB, tyD]; decide +kernel
theorem isB_dict_bool (b : Bool) : isB "dict" (.bool b) = false := by simp only [isB, tyD]; decide +kernel
theorem isB_dict_int (i : Int) : isB "dict" (.int i) = false := by simp only [isB, tyD]; decide +kernel
theorem isB_dict_str (x : Str) : isB "dict" (.str x) = false := by simp only [isB, tyD]; decide +kernel
theorem isB_dict_list (ds : List PyData) : isB "dict" (.list ds) = false := by simp only [isB, tyD]; decide +kernel
theorem isB_dict_tuple (ds : List PyData) : isB "dict" (.tuple ds) = false := by simp only [isB, tyD]; decide +kernel
theorem isB_list_none : isB "list" .none = false := by simp only [isB, tyD]; decide +kernel
theorem isB_list_bool (b : Bool) : isB "list" (.bool b) = false := by simp only [isB, tyD]; decide +kernel
theorem isB_list_int (i : Int) : isB "list" (.int i) = false := by simp only [isB, tyD]; decide +kernel
theorem isB_list_str (x : Str) : isB "list" (.str x) = false := by simp only [isB, tyD]; decide +kernel
theorem isB_list_list (ds : List PyData) : isB "list" (.list ds) = true := by simp only [isB, tyD]; decide +kernel
theorem isB_list_tuple (ds : List PyData) : isB "list" (.tuple ds) = false := by simp only [isB, tyD]; decide +kernel
theorem isB_tuple_none : isB "tuple" .none = false := by simp only [isB, tyD]; decide +kernel
theorem isB_tuple_bool (b : Bool) : isB "tuple" (.bool b) = false := by simp only [isB, tyD]; decide +kernel
theorem isB_tuple_int (i : Int) : isB "tuple" (.int i) = false := by simp only [isB, tyD]; decide +kernel
theorem isB_tuple_str (x : Str) : isB "tuple" (.str x) = false := by simp only [isB, tyD]; decide +kernel
theorem isB_tuple_list (ds : List PyData) : isB "tuple" (.list ds) = false := by simp only [isB, tyD]; decide +kernel
theorem isB_tuple_tuple (ds : List PyData) : isB "tuple" (.tuple ds) = true := by simp only [isB, tyD]; decide +kernel
theorem isB_dict_dict (kvs : List (PyData × PyData)) : isB "dict" (.dict kvs) = true := by simp only [isB, tyD]; decide +kernel
theorem isB_list_dict (kvs : List (PyData × PyData)) : isB "list" (.dict kvs) = false := by simp only [isB, tyD]; decide +kernel
theorem isB_tuple_dict (kvs : List (PyData × PyData)) : isB "tuple" (.dict kvs) = false := by simp only [isB, tyD]; decide +kernel
theorem isB_bool_dict (kvs : List (PyData × PyData)) : isB "bool" (.dict kvs) = false := by simp only [isB, tyD]; decide +kernel
theorem isB_int_dict (kvs : List (PyData × PyData)) : isB "int" (.dict kvs) = false := by simp only [isB, tyD]; decide +kernel
theorem isB_str_dict (kvs : List (PyData × PyData)) : isB "str" (.dict kvs) = false := by simp only [isB, tyD]; decide +kernel
theorem isB_bool_none : isB "bool" .none = false := by simp only [isB, tyD]; decide +kernel
theorem isB_bool_bool (b : Bool) : isB "bool" (.bool b) = true := by simp only [isB, tyD]; decide +kernel
theorem isB_bool_int (i : Int) : isB "bool" (.int i) = false := by simp only [isB, tyD]; decide +kernel
theorem isB_bool_str (x : Str) : isB "bool" (.str x) = false := by simp only [isB, tyD]; decide +kernel
theorem isB_bool_list (ds : List PyData) : isB "bool" (.list ds) = false := by simp only [isB, tyD]; decide +kernel
theorem isB_bool_tuple (ds : List PyData) : isB "bool" (.tuple ds) = false := by simp only [isB, tyD]; decide +kernel
theorem isB_int_none : isB "int" .none = false := by simp only [isB, tyD]; decide +kernel
theorem isB_int_bool (b : Bool) : isB "int" (.bool b) = true := by simp only [isB, tyD]; decide +kernel
theorem isB_int_int (i : Int) : isB "int" (.int i) = true := by simp only [isB, tyD]; decide +kernel
theorem isB_int_str (x : Str) : isB "int" (.str x) = false := by simp only [isB, tyD]; decide +kernel
theorem isB_int_list (ds : List PyData) : isB "int" (.list ds) = false := by simp only [isB, tyD]; decide +kernel
theorem isB_int_tuple (ds : List PyData) : isB "int" (.tuple ds) = false := by simp only [isB, tyD]; decide +kernel
theorem isB_str_none : isB "str" .none = false := by simp only [isB, tyD]; decide +kernel
theorem isB_str_bool (b : Bool) : isB "str" (.bool b) = false := by simp only [isB, tyD]; decide +kernel
theorem isB_str_int (i : Int) : isB "str" (.int i) = false := by simp only [isB, tyD]; decide +kernel
theorem isB_str_str (x : Str) : isB "str" (.str x) = true := by simp only [isB, tyD]; decide +kernel
theorem isB_str_list (ds : List PyData) : isB "str" (.list ds) = false := by simp only [isB, tyD]; decide +kernel
theorem isB_str_tuple (ds : List PyData) : isB "str" (.tuple ds) = false := by simp only [isB, tyD]; decide +kernel
theorem kitIs {d : PyData} {c : String} (h : c = "dict" ∨ c = "list" ∨ c = "tuple" ∨ c = "bool" ∨ c = "int" ∨ c = "str") : kitB (tyD d) c = some (isB c d) := by
  rcases h with rfl | rfl | rfl | rfl | rfl | rfl <;> cases d <;> simp only [isB, tyD] <;> decide +kernel
theorem w_isi {K : Fr} {H : Hp} {v : V} {d : PyData} {c : String} {Q : VK} (h : Dp K H v d) (hc : c = "dict" ∨ c = "list" ∨ c = "tuple" ∨ c = "bool" ∨ c = "int" ∨ c = "str") (q : Q (.bl (isB c d)) H) :
    rIsi K [v, .ty c] H Q := ⟨v, .ty c, _, .type c, isB c d, rfl, .ty c, tyx h, kit_ty (kitIs hc), q⟩

/-! the same readings as equations: one statement is unfolded at a time, what follows it stays closed (Kt) -/
def Kt (u : TS) (D : Ends) (σ : St) (H : Hp) : Prop := u D σ H
theorem w_kt {u : TS} {D : Ends} {σ : St} {H : Hp} (h : u D σ H) : Kt u D σ H := h
/-- a new tuple, a new list -/
def MkT (xs : List V) (H : Hp) (Q : VK) : Prop := xs.length ≤ sizeLine ∧ ∀ p, H p = none → Q (.ref p) (upd H p (.tup xs))
def MkL (xs : List V) (H : Hp) (Q : VK) : Prop := xs.length ≤ sizeLine ∧ ∀ p, H p = none → Q (.ref p) (upd H p (.lst xs))
theorem szle {n : Nat} (h : n ≤ 100000) : n ≤ sizeLine := Nat.le_trans h (by decide)
theorem w_tupR {xs : List V} {H : Hp} {Q : VK} (hl : xs.length ≤ 100000) (k : ∀ p, H p = none → Q (.ref p) (upd H p (.tup xs))) : MkT xs H Q := ⟨szle hl, k⟩
theorem w_lstR {xs : List V} {H : Hp} {Q : VK} (hl : xs.length ≤ 100000) (k : ∀ p, H p = none → Q (.ref p) (upd H p (.lst xs))) : MkL xs H Q := ⟨szle hl, k⟩
/-- a for's turns; a comprehension's turns; a while's turns: closed too -/
def FB (J : It) (g : TG) (tb : TS) (D : Ends) (σ : St) (H : Hp) : Prop := ∃ W : Nat → Nat → St → Hp → Prop, (∃ m, W 0 m σ H) ∧ ∀ i m σ H, W i m σ H →
  (J.stop i H ∧ D.nx σ H) ∨ (J.go i H ∧ ∃ N : St → Hp → Prop, (∀ σ' H', N σ' H' → ∃ m', m' < m ∧ W (i + 1) m' σ' H') ∧ ∀ x H', J.yld i H x H' → g x σ H' fun σ2 H2 => tb { D with nx := N, ct := N, bk := D.nx } σ2 H2)
def LB (J : It) (g : TG) (tt : TT) (te : TE) (vs : List Nat) (σ : St) (D : Addr) (Q : VK) (H1 : Hp) : Prop := ∃ W : Nat → Nat → Hp → Prop, (∃ m, W 0 m (upd H1 D (.lst []))) ∧ ∀ i m H, W i m H →
  (J.stop i H ∧ Q (.ref D) H) ∨ (J.go i H ∧ ∃ Nx : Hp → Prop, (∀ H', Nx H' → ∃ m', m' < m ∧ W (i + 1) m' H') ∧ ∀ x H', J.yld i H x H' → g x (wipe σ vs) H' fun σ2 H2 => wipe σ2 vs = wipe σ vs ∧ tt σ2 H2 fun b H3 =>
    if b = true then te σ2 H3 fun y H4 => ∃ acc, H4 D = some (.lst acc) ∧ acc.length < sizeLine ∧ Nx (upd H4 D (.lst (acc ++ [y]))) else Nx H3)
def WB (W : Nat → St → Hp → Prop) (m : Nat) (tb : TS) (D : Ends) (σ : St) (H : Hp) : Prop := ∃ N : St → Hp → Prop, (∀ σ' H', N σ' H' → ∃ m', m' < m ∧ W m' σ' H') ∧ tb { D with nx := N, ct := N, bk := D.nx } σ H
theorem w_cut {t u : TS} {D : Ends} {σ : St} {H : Hp} (Mid : St → Hp → Prop) (h : ∀ M : St → Hp → Prop, (∀ σ' H', Mid σ' H' → M σ' H') → t { D with nx := M } σ H) (h2 : ∀ σ' H', Mid σ' H' → u D σ' H') : Evl.tCut t u D σ H := ⟨Mid, h Mid fun _ _ q => q, h2⟩
section
variable {J : It} {n : Nat} {G : Hp → Prop} {Y : Nat → Hp → V → Hp → Prop} {K : Fr} {a : Addr} {xs : List V} {g : TG} {tb : TS} {D : Ends} {σ : St} {H : Hp} {tt : TT} {te : TE} {vs : List Nat} {L : Addr} {Q : VK} {lo : Int} {z : Str}
theorem w_for (w : Walk J n G Y) (Pv : Nat → St → Hp → Prop) (h0 : Pv 0 σ H) (hG : ∀ i σ H, i ≤ n → Pv i σ H → G H)
    (hs : ∀ i x σ H H', i < n → Pv i σ H → Y i H x H' → ∀ N : St → Hp → Prop, (∀ σ' H', Pv (i + 1) σ' H' → N σ' H') → g x σ H' fun σ2 H2 => tb { D with nx := N, ct := N, bk := D.nx } σ2 H2) (hd : ∀ σ H, Pv n σ H → D.nx σ H) :
    FB J g tb D σ H := for_it w Pv h0 hG (fun i x σ H H' hi p y => hs i x σ H H' hi p y _ fun _ _ q => q) hd
theorem w_lc (w : Walk J n G Y) (Pv : Nat → Hp → Prop) (h0 : Pv 0 (upd H L (.lst []))) (hG : ∀ i H, i ≤ n → Pv i H → G H)
    (hs : ∀ i x H H', i < n → Pv i H → Y i H x H' → ∀ N : Hp → Prop, (∀ H', Pv (i + 1) H' → N H') → g x (wipe σ vs) H' fun σ2 H2 => wipe σ2 vs = wipe σ vs ∧ tt σ2 H2 fun b H3 =>
      if b = true then te σ2 H3 fun y H4 => ∃ acc, H4 L = some (.lst acc) ∧ acc.length < sizeLine ∧ N (upd H4 L (.lst (acc ++ [y]))) else N H3) (hd : ∀ H, Pv n H → Q (.ref L) H) :
    LB J g tt te vs σ L Q H := lc_it (Qd := fun H => Q (.ref L) H) w Pv h0 hG (fun i x H H' hi p y => hs i x H H' hi p y _ fun _ q => q) hd
theorem w_forL (xs : List V) (Pv : Nat → St → Hp → Prop) (h0 : Pv 0 σ H) (hG : ∀ i σ H, i ≤ xs.length → Pv i σ H → SqL K H a xs)
    (hs : ∀ i x σ H, xs[i]? = some x → Pv i σ H → ∀ N : St → Hp → Prop, (∀ σ' H', Pv (i + 1) σ' H' → N σ' H') → g x σ H fun σ2 H2 => tb { D with nx := N, ct := N, bk := D.nx } σ2 H2) (hd : ∀ σ H, Pv xs.length σ H → D.nx σ H) :
    FB (Itl K a) g tb D σ H := w_for walk_list Pv h0 hG (fun i x σ H H' _ p ⟨e, y⟩ => by subst e; exact hs i x σ H' y p) hd
theorem w_forT (xs : List V) (Pv : Nat → St → Hp → Prop) (h0 : Pv 0 σ H) (hG : ∀ i σ H, i ≤ xs.length → Pv i σ H → SqT K H a xs)
    (hs : ∀ i x σ H, xs[i]? = some x → Pv i σ H → ∀ N : St → Hp → Prop, (∀ σ' H', Pv (i + 1) σ' H' → N σ' H') → g x σ H fun σ2 H2 => tb { D with nx := N, ct := N, bk := D.nx } σ2 H2) (hd : ∀ σ H, Pv xs.length σ H → D.nx σ H) :
    FB (Itt K a) g tb D σ H := w_for walk_tup Pv h0 hG (fun i x σ H H' _ p ⟨e, y⟩ => by subst e; exact hs i x σ H' y p) hd
theorem w_forR (Pv : Nat → St → Hp → Prop) (h0 : Pv 0 σ H)
    (hs : ∀ i σ H, i < n → Pv i σ H → ∀ N : St → Hp → Prop, (∀ σ' H', Pv (i + 1) σ' H' → N σ' H') → g (.int (lo + i)) σ H fun σ2 H2 => tb { D with nx := N, ct := N, bk := D.nx } σ2 H2) (hd : ∀ σ H, Pv n σ H → D.nx σ H) :
    FB (Itr lo n) g tb D σ H := w_for walk_range Pv h0 (fun _ _ _ _ _ => trivial) (fun i x σ H H' hi p ⟨e, y⟩ => by subst e; subst y; exact hs i σ H' hi p) hd
theorem w_forS (Pv : Nat → St → Hp → Prop) (h0 : Pv 0 σ H)
    (hs : ∀ i c σ H, z.cps.toList[i]? = some c → Pv i σ H → ∀ N : St → Hp → Prop, (∀ σ' H', Pv (i + 1) σ' H' → N σ' H') → g (.str ⟨#[c]⟩) σ H fun σ2 H2 => tb { D with nx := N, ct := N, bk := D.nx } σ2 H2) (hd : ∀ σ H, Pv z.cps.toList.length σ H → D.nx σ H) :
    FB (Its z) g tb D σ H := w_for walk_str Pv h0 (fun _ _ _ _ _ => trivial) (fun i x σ H H' _ p ⟨e, c, y, e2⟩ => by subst e; subst e2; exact hs i c σ H' (by rw [Array.getElem?_toList]; exact y) p) (by rw [Array.length_toList] at hd; exact hd)
theorem w_lcL (xs : List V) (Pv : Nat → Hp → Prop) (h0 : Pv 0 (upd H L (.lst []))) (hG : ∀ i H, i ≤ xs.length → Pv i H → SqL K H a xs)
    (hs : ∀ i x H, xs[i]? = some x → Pv i H → ∀ N : Hp → Prop, (∀ H', Pv (i + 1) H' → N H') → g x (wipe σ vs) H fun σ2 H2 => wipe σ2 vs = wipe σ vs ∧ tt σ2 H2 fun b H3 =>
      if b = true then te σ2 H3 fun y H4 => ∃ acc, H4 L = some (.lst acc) ∧ acc.length < sizeLine ∧ N (upd H4 L (.lst (acc ++ [y]))) else N H3) (hd : ∀ H, Pv xs.length H → Q (.ref L) H) :
    LB (Itl K a) g tt te vs σ L Q H := w_lc walk_list Pv h0 hG (fun i x H H' _ p ⟨e, y⟩ => by subst e; exact hs i x H' y p) hd
theorem w_lcT (xs : List V) (Pv : Nat → Hp → Prop) (h0 : Pv 0 (upd H L (.lst []))) (hG : ∀ i H, i ≤ xs.length → Pv i H → SqT K H a xs)
    (hs : ∀ i x H, xs[i]? = some x → Pv i H → ∀ N : Hp → Prop, (∀ H', Pv (i + 1) H' → N H') → g x (wipe σ vs) H fun σ2 H2 => wipe σ2 vs = wipe σ vs ∧ tt σ2 H2 fun b H3 =>
      if b = true then te σ2 H3 fun y H4 => ∃ acc, H4 L = some (.lst acc) ∧ acc.length < sizeLine ∧ N (upd H4 L (.lst (acc ++ [y]))) else N H3) (hd : ∀ H, Pv xs.length H → Q (.ref L) H) :
    LB (Itt K a) g tt te vs σ L Q H := w_lc walk_tup Pv h0 hG (fun i x H H' _ p ⟨e, y⟩ => by subst e; exact hs i x H' y p) hd
theorem w_lcR (Pv : Nat → Hp → Prop) (h0 : Pv 0 (upd H L (.lst [])))
    (hs : ∀ i H, i < n → Pv i H → ∀ N : Hp → Prop, (∀ H', Pv (i + 1) H' → N H') → g (.int (lo + i)) (wipe σ vs) H fun σ2 H2 => wipe σ2 vs = wipe σ vs ∧ tt σ2 H2 fun b H3 =>
      if b = true then te σ2 H3 fun y H4 => ∃ acc, H4 L = some (.lst acc) ∧ acc.length < sizeLine ∧ N (upd H4 L (.lst (acc ++ [y]))) else N H3) (hd : ∀ H, Pv n H → Q (.ref L) H) :
    LB (Itr lo n) g tt te vs σ L Q H := w_lc walk_range Pv h0 (fun _ _ _ _ => trivial) (fun i x H H' hi p ⟨e, y⟩ => by subst e; subst y; exact hs i H' hi p) hd
theorem w_lcS (Pv : Nat → Hp → Prop) (h0 : Pv 0 (upd H L (.lst [])))
    (hs : ∀ i c H, z.cps.toList[i]? = some c → Pv i H → ∀ N : Hp → Prop, (∀ H', Pv (i + 1) H' → N H') → g (.str ⟨#[c]⟩) (wipe σ vs) H fun σ2 H2 => wipe σ2 vs = wipe σ vs ∧ tt σ2 H2 fun b H3 =>
      if b = true then te σ2 H3 fun y H4 => ∃ acc, H4 L = some (.lst acc) ∧ acc.length < sizeLine ∧ N (upd H4 L (.lst (acc ++ [y]))) else N H3) (hd : ∀ H, Pv z.cps.toList.length H → Q (.ref L) H) :
    LB (Its z) g tt te vs σ L Q H := w_lc walk_str Pv h0 (fun _ _ _ _ => trivial) (fun i x H H' _ p ⟨e, c, y, e2⟩ => by subst e; subst e2; exact hs i c H' (by rw [Array.getElem?_toList]; exact y) p) (by rw [Array.length_toList] at hd; exact hd)
end
theorem w_while {c : TT} {tb : TS} {D : Ends} {σ : St} {H : Hp} (W : Nat → St → Hp → Prop) (m : Nat) (h0 : W m σ H)
    (hs : ∀ m σ H, W m σ H → c σ H fun b H1 => if b = true then WB W m tb D σ H1 else D.nx σ H1) : tWhile c tb D σ H := ⟨W, ⟨m, h0⟩, hs⟩
theorem w_wb {W : Nat → St → Hp → Prop} {m : Nat} {tb : TS} {D : Ends} {σ : St} {H : Hp} (h : ∀ N : St → Hp → Prop, (∀ m' σ' H', m' < m → W m' σ' H' → N σ' H') → tb { D with nx := N, ct := N, bk := D.nx } σ H) : WB W m tb D σ H := ⟨_, fun _ _ q => q, h _ fun m' _ _ l w => ⟨m', l, w⟩⟩
section
variable {K : Fr} {σ : St} {H : Hp} {Q : VK} {D : Ends} {te ta tb tc tl th : TE} {ts tu : TS} {g : TG} {c t : TT} {al ar tk : TA} {wi : TI} {R : Bool → Hp → Prop} {RL : List V → Hp → Prop} {RO : Option Int → Hp → Prop} {RI : It → Hp → Prop} {RG : St → Hp → Prop}
theorem e_seq : tSeq ts tu D σ H = ts { D with nx := Kt tu D } σ H := rfl
theorem e_next : tNext D σ H = D.nx σ H := rfl
theorem e_brk : tBreak D σ H = D.bk σ H := rfl
theorem e_cont : tCont D σ H = D.ct σ H := rfl
theorem e_drop : tDrop te D σ H = te σ H (fun _ H1 => D.nx σ H1) := rfl
theorem e_ret : tRet te D σ H = te σ H D.rt := rfl
theorem e_retN : tRetN D σ H = D.rt .non H := rfl
theorem e_asg : tAsg te g D σ H = te σ H (fun x H1 => g x σ H1 D.nx) := rfl
theorem e_if : tIfS c ts tu D σ H = c σ H (fun b H1 => if b = true then ts D σ H1 else tu D σ H1) := rfl
theorem e_par {i j : Nat} : tPar i j al D σ H = al σ H (fun vs H1 => ∃ v w, vs = [v, w] ∧ D.nx ((σ.set i (some v)).set j (some w)) H1) := rfl
theorem e_par3 {i j l : Nat} : tPar3 i j l al D σ H = al σ H (fun vs H1 => ∃ u v w, vs = [u, v, w] ∧ D.nx (((σ.set i (some u)).set j (some v)).set l (some w)) H1) := rfl
theorem e_for : tFor wi g ts D σ H = wi σ H (fun J H1 => FB J g ts D σ H1) := rfl
theorem e_name {i : Nat} {v : V} : gName i v σ H RG = RG (σ.set i (some v)) H := rfl
theorem e_gsub {s : TSet} {v : V} : gSub ta tb s v σ H RG = ta σ H (fun o H1 => tb σ H1 fun i H2 => s o i v H2 fun H3 => RG σ H3) := rfl
theorem e_gtup {n : Nat} {u : TGs} {a : Addr} : gTup K n u (.ref a) σ H RG = ∃ xs, SqT K H a xs ∧ xs.length = n ∧ u xs σ H RG := propext ⟨fun ⟨a', xs, e, r⟩ => by cases e; exact ⟨xs, r⟩, fun ⟨xs, r⟩ => ⟨a, xs, rfl, r⟩⟩
theorem e_gnil {xs : List V} : gNil xs σ H RG = (xs = [] ∧ RG σ H) := rfl
theorem e_gcons {u : TGs} {v : V} {xs : List V} : gCons g u (v :: xs) σ H RG = g v σ H (fun σ' H' => u xs σ' H' RG) := propext ⟨fun ⟨v', r, e, q⟩ => by cases e; exact q, fun q => ⟨v, xs, rfl, q⟩⟩
theorem e_setL {p : Addr} {m : Int} {v : V} {X : Hp → Prop} : rSetL (.ref p) (.int m) v H X = ∃ xs j, H p = some (.lst xs) ∧ ixN xs.length m = some j ∧ X (upd H p (.lst (xs.set j v))) :=
  propext ⟨fun ⟨p', xs, k, j, e1, e2, r⟩ => by cases e1; cases e2; exact ⟨xs, j, r⟩, fun ⟨xs, j, r⟩ => ⟨p, xs, m, j, rfl, rfl, r⟩⟩
/-- expressions -/
theorem e_var {i : Nat} : tVar i σ H Q = ∃ v, σ[i]? = some (some v) ∧ Q v H := rfl
theorem e_c {v : V} : tC v σ H Q = Q v H := rfl
theorem e_op {r : R2} : tOp r ta tb σ H Q = ta σ H (fun x H1 => tb σ H1 fun y H2 => r x y H2 Q) := rfl
theorem e_un {r : V → Hp → VK → Prop} : tUn r ta σ H Q = ta σ H (fun x H1 => r x H1 Q) := rfl
theorem e_nil : tNil σ H RL = RL [] H := rfl
theorem e_cons : tCons te al σ H RL = te σ H (fun x H1 => al σ H1 fun xs H2 => RL (x :: xs) H2) := rfl
theorem e_tup : tTup al σ H Q = al σ H (fun xs H1 => MkT xs H1 Q) := rfl
theorem e_lst : tLst al σ H Q = al σ H (fun xs H1 => MkL xs H1 Q) := rfl
theorem e_call {sp : Sp} {dvs : List V} {E : XK} : tCall sp dvs E al σ H Q = al σ H (fun vs H1 => sp (vs ++ dvs) H1 Q E) := rfl
theorem e_callN {n m : Nat} {sp : Sp} {gV : List V → List V → List V} {E : XK} : tCallN n m sp gV E al tk σ H Q = al σ H (fun vs H1 => tk σ H1 fun zs H2 => vs.length = n ∧ zs.length = m ∧ sp (gV vs zs) H2 Q E) := rfl
theorem e_CB {r : List V → Hp → VK → Prop} : tCB r al σ H Q = al σ H (fun vs H1 => r vs H1 Q) := rfl
theorem e_test : tTest te σ H R = te σ H (fun x H1 => ∃ k, x = .bl k ∧ R k H1) := rfl
theorem e_B : tB te σ H R = te σ H (fun x H1 => ∃ k, x = .bl k ∧ R k H1) := rfl
theorem e_and : tAnd c t σ H R = c σ H (fun b H1 => if b = true then t σ H1 R else R false H1) := rfl
theorem e_or : tOr c t σ H R = c σ H (fun b H1 => if b = true then R true H1 else t σ H1 R) := rfl
theorem e_not : tNot c σ H R = c σ H (fun b H1 => R (!b) H1) := rfl
theorem e_andV : tAndV ta tb σ H Q = ta σ H (fun x H1 => ∃ b, x = .bl b ∧ if b = true then tb σ H1 Q else Q (.bl false) H1) := rfl
theorem e_orV : tOrV ta tb σ H Q = ta σ H (fun x H1 => ∃ b, x = .bl b ∧ if b = true then Q (.bl true) H1 else tb σ H1 Q) := rfl
theorem e_notV : tNotV ta σ H Q = ta σ H (fun x H1 => ∃ b, x = .bl b ∧ Q (.bl (!b)) H1) := rfl
theorem e_ifE : tIf c ta tb σ H Q = c σ H (fun b H1 => if b = true then ta σ H1 Q else tb σ H1 Q) := rfl
theorem e_chain {r r' : R2} : tChain r r' ta tb tc σ H Q = ta σ H (fun x H1 => tb σ H1 fun y H2 => r x y H2 fun z H3 => ∃ k, z = .bl k ∧ (if k = true then tc σ H3 fun w' H4 => r' y w' H4 Q else Q (.bl false) H3)) := rfl
theorem e_sl {r : V → Option Int → Option Int → Hp → VK → Prop} {to1 to2 : TO} : tSl r te to1 to2 σ H Q = te σ H (fun x H1 => to1 σ H1 fun l H2 => to2 σ H2 fun u H3 => r x l u H3 Q) := rfl
theorem e_nopart : tNoPart σ H RO = RO none H := rfl
theorem e_part : tPart te σ H RO = te σ H (fun x H1 => ∃ i, x = .int i ∧ RO (some i) H1) := rfl
theorem e_bm {T : String} {r : V → List V → Hp → VK → Prop} : tBM K T r te al σ H Q = te σ H (fun x H1 => tyV K T x H1 ∧ al σ H1 fun xs H2 => r x xs H2 Q) := rfl
theorem e_bm0 {T : String} {r : V → List V → Hp → VK → Prop} : tBM0 K T r te σ H Q = te σ H (fun x H1 => tyV K T x H1 ∧ r x [] H1 Q) := rfl
theorem e_m0 {r : V → List V → Hp → VK → Prop} : tM0 r te σ H Q = te σ H (fun x H1 => (∃ a, x = .str a) ∧ r x [] H1 Q) := rfl
theorem e_m1 {r : V → List V → Hp → VK → Prop} : tM1 r ta te σ H Q = ta σ H (fun x H1 => (∃ a, x = .str a) ∧ te σ H1 fun y H2 => r x [y] H2 Q) := rfl
theorem e_fmt : tFmt te σ H Q = te σ H (fun x H1 => (∃ y : Str, x = .str y ∧ y.length ≤ sizeLine ∧ Q (.str y) H1) ∨ ∃ i : Int, x = .int i ∧ i.natAbs.log2 < 1920 ∧ Q (.str (toString i)) H1) := rfl
theorem e_js0 {acc : Str} {X : Str → Hp → Prop} : tJs [] acc σ H X = X acc H := rfl
theorem e_js {acc : Str} {X : Str → Hp → Prop} {l : List TE} : tJs (te :: l) acc σ H X = te σ H (fun x H1 => ∃ y : Str, x = .str y ∧ (acc ++ y).length ≤ sizeLine ∧ tJs l (acc ++ y) σ H1 X) := rfl
theorem e_lc {tt : TT} {vs : List Nat} : tLc wi g tt te vs σ H Q = wi σ H (fun J H1 => ∀ D, H1 D = none → LB J g tt te vs σ D Q H1) := rfl
theorem e_yes : tYes σ H R = R true H := rfl
theorem e_iList : iList K te σ H RI = te σ H (fun x H1 => ∃ a, x = .ref a ∧ (∃ xs, SqL K H1 a xs) ∧ RI (Itl K a) H1) := rfl
theorem e_iTup : iTup K te σ H RI = te σ H (fun x H1 => ∃ a, x = .ref a ∧ (∃ xs, SqT K H1 a xs) ∧ RI (Itt K a) H1) := rfl
theorem e_iR1 : iRng1 al σ H RI = al σ H (fun vs H1 => ∃ j : Int, vs = [.int j] ∧ -(2 ^ 62) ≤ j ∧ j < 2 ^ 62 ∧ RI (Itr 0 j.toNat) H1) := rfl
theorem e_iR2 : iRng2 al σ H RI = al σ H (fun vs H1 => ∃ i j : Int, vs = [.int i, .int j] ∧ (-(2 ^ 62) ≤ i ∧ i < 2 ^ 62 ∧ -(2 ^ 62) ≤ j ∧ j < 2 ^ 62) ∧ RI (Itr i (j - i).toNat) H1) := rfl
theorem e_iStr : iStr te σ H RI = te σ H (fun v H1 => ∃ x, v = .str x ∧ RI (Its x) H1) := rfl
theorem e_iEnum : iEnum K al σ H RI = al σ H (fun vs H1 => ∃ a xs, vs = [.ref a] ∧ SqL K H1 a xs ∧ RI (Ite K a) H1) := rfl
/-- operators on values -/
theorem e_I0 {f : Int → Int → V} {m n : Int} : rI0 f (.int m) (.int n) H Q = Q (f m n) H := propext ⟨fun ⟨i, j, e1, e2, q⟩ => by cases e1; cases e2; exact q, fun q => ⟨m, n, rfl, rfl, q⟩⟩
theorem e_I {C : Int → Int → Prop} {f : Int → Int → V} {m n : Int} : rI C f (.int m) (.int n) H Q = (C m n ∧ Q (f m n) H) := propext ⟨fun ⟨i, j, e1, e2, q⟩ => by cases e1; cases e2; exact q, fun q => ⟨m, n, rfl, rfl, q⟩⟩
theorem e_U {f : Int → V} {m : Int} : rU f (.int m) H Q = Q (f m) H := propext ⟨fun ⟨i, e1, q⟩ => by cases e1; exact q, fun q => ⟨m, rfl, q⟩⟩
theorem e_eqI {m n : Int} : rEq (.int m) (.int n) H Q = Q (.bl (decide (m = n))) H := propext ⟨fun ⟨_, q⟩ => by rwa [show decide (V.int m = V.int n) = decide (m = n) by simp] at q, fun q => ⟨rfl, by rwa [show decide (V.int m = V.int n) = decide (m = n) by simp]⟩⟩
theorem e_neI {m n : Int} : rNe (.int m) (.int n) H Q = Q (.bl (!decide (m = n))) H := propext ⟨fun ⟨_, q⟩ => by rwa [show decide (V.int m = V.int n) = decide (m = n) by simp] at q, fun q => ⟨rfl, by rwa [show decide (V.int m = V.int n) = decide (m = n) by simp]⟩⟩
theorem e_eqS {m n : Str} : rEq (.str m) (.str n) H Q = Q (.bl (decide (m = n))) H := propext ⟨fun ⟨_, q⟩ => by rwa [show decide (V.str m = V.str n) = decide (m = n) by simp] at q, fun q => ⟨rfl, by rwa [show decide (V.str m = V.str n) = decide (m = n) by simp]⟩⟩
theorem e_neS {m n : Str} : rNe (.str m) (.str n) H Q = Q (.bl (!decide (m = n))) H := propext ⟨fun ⟨_, q⟩ => by rwa [show decide (V.str m = V.str n) = decide (m = n) by simp] at q, fun q => ⟨rfl, by rwa [show decide (V.str m = V.str n) = decide (m = n) by simp]⟩⟩
theorem e_eqB {m n : Bool} : rEq (.bl m) (.bl n) H Q = Q (.bl (decide (m = n))) H := propext ⟨fun ⟨_, q⟩ => by rwa [show decide (V.bl m = V.bl n) = decide (m = n) by simp] at q, fun q => ⟨rfl, by rwa [show decide (V.bl m = V.bl n) = decide (m = n) by simp]⟩⟩
theorem e_neB {m n : Bool} : rNe (.bl m) (.bl n) H Q = Q (.bl (!decide (m = n))) H := propext ⟨fun ⟨_, q⟩ => by rwa [show decide (V.bl m = V.bl n) = decide (m = n) by simp] at q, fun q => ⟨rfl, by rwa [show decide (V.bl m = V.bl n) = decide (m = n) by simp]⟩⟩
theorem e_isB {m n : Bool} : rIsB (.bl m) (.bl n) H Q = Q (.bl (decide (m = n))) H := propext ⟨fun ⟨i, j, e1, e2, q⟩ => by cases e1; cases e2; exact q, fun q => ⟨m, n, rfl, rfl, q⟩⟩
theorem e_notB {m n : Bool} : rNotB (.bl m) (.bl n) H Q = Q (.bl (!decide (m = n))) H := propext ⟨fun ⟨i, j, e1, e2, q⟩ => by cases e1; cases e2; exact q, fun q => ⟨m, n, rfl, rfl, q⟩⟩
theorem e_ixL {p : Addr} {m : Int} : rIxL K (.ref p) (.int m) H Q = ∃ xs v, SqL K H p xs ∧ atI xs m = some v ∧ Q v H := propext ⟨fun ⟨p', xs, i, v, e1, e2, r⟩ => by cases e1; cases e2; exact ⟨xs, v, r⟩, fun ⟨xs, v, r⟩ => ⟨p, xs, m, v, rfl, rfl, r⟩⟩
theorem e_ixT {p : Addr} {m : Int} : rIxT K (.ref p) (.int m) H Q = ∃ xs v, SqT K H p xs ∧ atI xs m = some v ∧ Q v H := propext ⟨fun ⟨p', xs, i, v, e1, e2, r⟩ => by cases e1; cases e2; exact ⟨xs, v, r⟩, fun ⟨xs, v, r⟩ => ⟨p, xs, m, v, rfl, rfl, r⟩⟩
theorem e_ixS {z : Str} {m : Int} : rIxS (.str z) (.int m) H Q = ∃ c, z.length ≤ sizeLine ∧ atI z.cps.toList m = some c ∧ Q (.str ⟨#[c]⟩) H := propext ⟨fun ⟨p', i, v, e1, e2, r⟩ => by cases e1; cases e2; exact ⟨v, r⟩, fun ⟨v, r⟩ => ⟨z, m, v, rfl, rfl, r⟩⟩
theorem e_slS {z : Str} {lo hi : Option Int} : rSlS (.str z) lo hi H Q = (z.length ≤ sizeLine ∧ Q (.str (cutS z lo hi)) H) := propext ⟨fun ⟨z', e1, r⟩ => by cases e1; exact r, fun r => ⟨z, rfl, r⟩⟩
theorem e_slL {p : Addr} {lo hi : Option Int} : rSlL K (.ref p) lo hi H Q = ∃ xs, SqL K H p xs ∧ ∀ q, H q = none → Q (.ref q) (upd H q (.lst (cutV xs lo hi))) := propext ⟨fun ⟨z', xs, e1, r⟩ => by cases e1; exact ⟨xs, r⟩, fun ⟨xs, r⟩ => ⟨p, xs, rfl, r⟩⟩
theorem e_app {p : Addr} {y : V} : rAppend (.ref p) [y] H Q = ∃ xs, H p = some (.lst xs) ∧ xs.length < sizeLine ∧ Q .non (upd H p (.lst (xs ++ [y]))) := propext ⟨fun ⟨z', xs, y', e1, e2, r⟩ => by cases e1; cases e2; exact ⟨xs, r⟩, fun ⟨xs, r⟩ => ⟨p, xs, y, rfl, rfl, r⟩⟩
theorem e_pop {p : Addr} : rPop (.ref p) [] H Q = ∃ xs y, H p = some (.lst xs) ∧ xs[xs.length - 1]? = some y ∧ Q y (upd H p (.lst xs.dropLast)) := propext ⟨fun ⟨z', xs, y', e1, e2, r⟩ => by cases e1; exact ⟨xs, y', r⟩, fun ⟨xs, y, r⟩ => ⟨p, xs, y, rfl, rfl, r⟩⟩
theorem e_cat {p q : Addr} : rCat (.ref p) (.ref q) H Q = ∃ xs zs, H p = some (.lst xs) ∧ H q = some (.lst zs) ∧ xs.length + zs.length ≤ sizeLine ∧ ∀ r, H r = none → Q (.ref r) (upd H r (.lst (xs ++ zs))) :=
  propext ⟨fun ⟨l, b, xs, zs, e1, e2, r⟩ => by cases e1; cases e2; exact ⟨xs, zs, r⟩, fun ⟨xs, zs, r⟩ => ⟨p, q, xs, zs, rfl, rfl, r⟩⟩
theorem e_lenV {x : V} : rLenV K [x] H Q = ∃ n, LenV K x H n ∧ Q (.int (n : Nat)) H := propext ⟨fun ⟨x', n, e, r⟩ => by cases e; exact ⟨n, r⟩, fun ⟨n, r⟩ => ⟨x, n, rfl, r⟩⟩
theorem e_lenQ {p : Addr} : rLenQ K [.ref p] H Q = ∃ ys, (SqL K H p ys ∨ SqT K H p ys) ∧ Q (.int ((ys.length : Nat) : Int)) H := propext ⟨fun ⟨x', n, e, r⟩ => by cases e; exact ⟨n, r⟩, fun ⟨n, r⟩ => ⟨p, n, rfl, r⟩⟩
theorem e_K {CX : CXT} {P : Program} {w : World} {mg : Str → Option Value} {base : Heap} {N : List Str} {qual : Str} {scope : Scope} {f : Addr} {cd : Value} {A : Around} {outer : List Env} {s : Shared} {E : XK} : (cxOf CX P w K mg base N qual scope f cd A outer s H E).K = K := rfl
theorem e_noxK {X : Cx} : X.nox.K = X.K := rfl
theorem e_szT {n : Nat} (h : n ≤ 100000) : (n ≤ sizeLine) = True := eq_true (Nat.le_trans h (by decide))
theorem e_szL {n : Nat} (h : n ≤ 100000) : (n < sizeLine) = True := eq_true (Nat.lt_of_le_of_lt h (by decide))
theorem s_seq (h : ts { D with nx := Kt tu D } σ H) : tSeq ts tu D σ H := h
theorem s_next (h : D.nx σ H) : tNext D σ H := h
theorem s_brk (h : D.bk σ H) : tBreak D σ H := h
theorem s_cont (h : D.ct σ H) : tCont D σ H := h
theorem s_drop (h : te σ H (fun _ H1 => D.nx σ H1)) : tDrop te D σ H := h
theorem s_ret (h : te σ H D.rt) : tRet te D σ H := h
theorem s_retN (h : D.rt .non H) : tRetN D σ H := h
theorem s_asg (h : te σ H (fun x H1 => g x σ H1 D.nx)) : tAsg te g D σ H := h
theorem s_if (h : c σ H (fun b H1 => if b = true then ts D σ H1 else tu D σ H1)) : tIfS c ts tu D σ H := h
theorem s_par {i j : Nat} (h : al σ H (fun vs H1 => ∃ v w, vs = [v, w] ∧ D.nx ((σ.set i (some v)).set j (some w)) H1)) : tPar i j al D σ H := h
theorem s_par3 {i j l : Nat} (h : al σ H (fun vs H1 => ∃ u v w, vs = [u, v, w] ∧ D.nx (((σ.set i (some u)).set j (some v)).set l (some w)) H1)) : tPar3 i j l al D σ H := h
theorem s_for (h : wi σ H (fun J H1 => FB J g ts D σ H1)) : tFor wi g ts D σ H := h
theorem s_name {i : Nat} {v : V} (h : RG (σ.set i (some v)) H) : gName i v σ H RG := h
theorem s_gsub {s : TSet} {v : V} (h : ta σ H (fun o H1 => tb σ H1 fun i H2 => s o i v H2 fun H3 => RG σ H3)) : gSub ta tb s v σ H RG := h
theorem s_gnil {xs : List V} (h : (xs = [] ∧ RG σ H)) : gNil xs σ H RG := h
theorem s_c {v : V} (h : Q v H) : tC v σ H Q := h
theorem s_op {r : R2} (h : ta σ H (fun x H1 => tb σ H1 fun y H2 => r x y H2 Q)) : tOp r ta tb σ H Q := h
theorem s_un {r : V → Hp → VK → Prop} (h : ta σ H (fun x H1 => r x H1 Q)) : tUn r ta σ H Q := h
theorem s_nil (h : RL [] H) : tNil σ H RL := h
theorem s_cons (h : te σ H (fun x H1 => al σ H1 fun xs H2 => RL (x :: xs) H2)) : tCons te al σ H RL := h
theorem s_tup (h : al σ H (fun xs H1 => MkT xs H1 Q)) : tTup al σ H Q := h
theorem s_lst (h : al σ H (fun xs H1 => MkL xs H1 Q)) : tLst al σ H Q := h
theorem s_call0 {sp : Sp} {E : XK} (h : al σ H (fun vs H1 => sp vs H1 Q E)) : tCall sp [] E al σ H Q := by
  rw [e_call]
  simp only [List.append_nil]
  exact h
theorem s_call {sp : Sp} {dvs : List V} {E : XK} (h : al σ H (fun vs H1 => sp (vs ++ dvs) H1 Q E)) : tCall sp dvs E al σ H Q := h
theorem s_callN {n m : Nat} {sp : Sp} {gV : List V → List V → List V} {E : XK} (h : al σ H (fun vs H1 => tk σ H1 fun zs H2 => vs.length = n ∧ zs.length = m ∧ sp (gV vs zs) H2 Q E)) : tCallN n m sp gV E al tk σ H Q := h
theorem s_CB {r : List V → Hp → VK → Prop} (h : al σ H (fun vs H1 => r vs H1 Q)) : tCB r al σ H Q := h
theorem s_test (h : te σ H (fun x H1 => ∃ k, x = .bl k ∧ R k H1)) : tTest te σ H R := h
theorem s_B (h : te σ H (fun x H1 => ∃ k, x = .bl k ∧ R k H1)) : tB te σ H R := h
theorem s_and (h : c σ H (fun b H1 => if b = true then t σ H1 R else R false H1)) : tAnd c t σ H R := h
theorem s_or (h : c σ H (fun b H1 => if b = true then R true H1 else t σ H1 R)) : tOr c t σ H R := h
theorem s_not (h : c σ H (fun b H1 => R (!b) H1)) : tNot c σ H R := h
theorem s_andV (h : ta σ H (fun x H1 => ∃ b, x = .bl b ∧ if b = true then tb σ H1 Q else Q (.bl false) H1)) : tAndV ta tb σ H Q := h
theorem s_orV (h : ta σ H (fun x H1 => ∃ b, x = .bl b ∧ if b = true then Q (.bl true) H1 else tb σ H1 Q)) : tOrV ta tb σ H Q := h
theorem s_notV (h : ta σ H (fun x H1 => ∃ b, x = .bl b ∧ Q (.bl (!b)) H1)) : tNotV ta σ H Q := h
theorem s_ifE (h : c σ H (fun b H1 => if b = true then ta σ H1 Q else tb σ H1 Q)) : tIf c ta tb σ H Q := h
theorem s_chain {r r' : R2} (h : ta σ H (fun x H1 => tb σ H1 fun y H2 => r x y H2 fun z H3 => ∃ k, z = .bl k ∧ (if k = true then tc σ H3 fun w' H4 => r' y w' H4 Q else Q (.bl false) H3))) : tChain r r' ta tb tc σ H Q := h
theorem s_sl {r : V → Option Int → Option Int → Hp → VK → Prop} {to1 to2 : TO} (h : te σ H (fun x H1 => to1 σ H1 fun l H2 => to2 σ H2 fun u H3 => r x l u H3 Q)) : tSl r te to1 to2 σ H Q := h
theorem s_nopart (h : RO none H) : tNoPart σ H RO := h
theorem s_part (h : te σ H (fun x H1 => ∃ i, x = .int i ∧ RO (some i) H1)) : tPart te σ H RO := h
theorem s_bm {T : String} {r : V → List V → Hp → VK → Prop} (h : te σ H (fun x H1 => tyV K T x H1 ∧ al σ H1 fun xs H2 => r x xs H2 Q)) : tBM K T r te al σ H Q := h
theorem s_bm0 {T : String} {r : V → List V → Hp → VK → Prop} (h : te σ H (fun x H1 => tyV K T x H1 ∧ r x [] H1 Q)) : tBM0 K T r te σ H Q := h
theorem s_m0 {r : V → List V → Hp → VK → Prop} (h : te σ H (fun x H1 => (∃ a, x = .str a) ∧ r x [] H1 Q)) : tM0 r te σ H Q := h
theorem s_m1 {r : V → List V → Hp → VK → Prop} (h : ta σ H (fun x H1 => (∃ a, x = .str a) ∧ te σ H1 fun y H2 => r x [y] H2 Q)) : tM1 r ta te σ H Q := h
theorem s_fmt (h : te σ H (fun x H1 => (∃ y : Str, x = .str y ∧ y.length ≤ sizeLine ∧ Q (.str y) H1) ∨ ∃ i : Int, x = .int i ∧ i.natAbs.log2 < 1920 ∧ Q (.str (toString i)) H1)) : tFmt te σ H Q := h
theorem s_js0 {acc : Str} {X : Str → Hp → Prop} (h : X acc H) : tJs [] acc σ H X := h
theorem s_js {acc : Str} {X : Str → Hp → Prop} {l : List TE} (h : te σ H (fun x H1 => ∃ y : Str, x = .str y ∧ (acc ++ y).length ≤ sizeLine ∧ tJs l (acc ++ y) σ H1 X)) : tJs (te :: l) acc σ H X := h
theorem s_lc {tt : TT} {vs : List Nat} (h : wi σ H (fun J H1 => ∀ D, H1 D = none → LB J g tt te vs σ D Q H1)) : tLc wi g tt te vs σ H Q := h
theorem s_yes (h : R true H) : tYes σ H R := h
theorem s_iList (h : te σ H (fun x H1 => ∃ a, x = .ref a ∧ (∃ xs, SqL K H1 a xs) ∧ RI (Itl K a) H1)) : iList K te σ H RI := h
theorem s_iTup (h : te σ H (fun x H1 => ∃ a, x = .ref a ∧ (∃ xs, SqT K H1 a xs) ∧ RI (Itt K a) H1)) : iTup K te σ H RI := h
theorem s_iR1 (h : al σ H (fun vs H1 => ∃ j : Int, vs = [.int j] ∧ -(2 ^ 62) ≤ j ∧ j < 2 ^ 62 ∧ RI (Itr 0 j.toNat) H1)) : iRng1 al σ H RI := h
theorem s_iR2 (h : al σ H (fun vs H1 => ∃ i j : Int, vs = [.int i, .int j] ∧ (-(2 ^ 62) ≤ i ∧ i < 2 ^ 62 ∧ -(2 ^ 62) ≤ j ∧ j < 2 ^ 62) ∧ RI (Itr i (j - i).toNat) H1)) : iRng2 al σ H RI := h
theorem s_iStr (h : te σ H (fun v H1 => ∃ x, v = .str x ∧ RI (Its x) H1)) : iStr te σ H RI := h
theorem s_iEnum (h : al σ H (fun vs H1 => ∃ a xs, vs = [.ref a] ∧ SqL K H1 a xs ∧ RI (Ite K a) H1)) : iEnum K al σ H RI := h
theorem s_var {i : Nat} {v : V} (h : σ[i]? = some (some v)) (q : Q v H) : tVar i σ H Q := ⟨v, h, q⟩
theorem s_I0 {f : Int → Int → V} {m n : Int} (q : Q (f m n) H) : rI0 f (.int m) (.int n) H Q := ⟨m, n, rfl, rfl, q⟩
theorem s_U {f : Int → V} {m : Int} (q : Q (f m) H) : rU f (.int m) H Q := ⟨m, rfl, q⟩
theorem s_ex {v : V} {R : V → Prop} (q : R v) : ∃ w, v = w ∧ R w := ⟨v, rfl, q⟩
end

/-! the bag of a law: the script's numbers and four counters; its draws are any numbers in their range -/
def BagO (I : Hp) (o : HO) : Prop := ∃ (l : Addr) (ns : List Int) (i : Nat) (x s c : Int), o = .lst [.ref l, .int i, .int x, .int s, .int c] ∧ I l = some (.lst (ns.map V.int)) ∧ ns.length ≤ 63 ∧ 0 ≤ x ∧ 0 ≤ s ∧ s < 2147483629
theorem BagO.mono {I J : Hp} {o : HO} (h : BagO I o) (e : Same I J) : BagO J o := by
  obtain ⟨l, ns, i, x, s, c, e1, e2, r⟩ := h
  exact ⟨l, ns, i, x, s, c, e1, e _ _ e2, r⟩
structure W (b : Addr) (I H : Hp) : Prop where
  ok : Same I H
  nb : I b = none
  bag : ∃ o, H b = some o ∧ BagO I o
theorem W.hb {b : Addr} {I H : Hp} (w : W b I H) : H b ≠ none := by
  obtain ⟨o, h, _⟩ := w.bag
  rw [h]; exact fun z => by cases z
theorem W.upd {b : Addr} {I H : Hp} {o : HO} (w : W b I H) (h : BagO I o) : W b I (L2.upd H b o) :=
  ⟨fun a u e => by
    have : a ≠ b := fun z => by rw [z, w.nb] at e; cases e
    rw [upd_ne this]; exact w.ok a u e, w.nb, o, upd_same, h⟩
/-- behind a call that writes nothing that stood -/
theorem W.pu {b : Addr} {I H I' H' : Hp} (w : W b I H) (p : Pu I H I' H') : W b I' H' := by
  obtain ⟨o, h, r⟩ := w.bag
  exact ⟨p.ok, p.fr b w.nb (by rw [h]; exact fun z => by cases z), o, p.sm b o h, r.mono p.im⟩
theorem W.new {b : Addr} {I H : Hp} {p : Addr} {o : HO} (w : W b I H) (hp : H p = none) : W b (L2.upd I p o) (L2.upd H p o) := w.pu (Pu.new w.ok hp)
theorem W.newM {b : Addr} {I H : Hp} {p : Addr} {o : HO} (w : W b I H) (hp : H p = none) : W b I (L2.upd H p o) := w.pu (Pu.newM w.ok hp)
theorem W.same {b : Addr} {I H H' : Hp} (w : W b I H) (e : Same H H') : W b I H' := w.pu ⟨⟨fun _ _ e => e, fun a u q => e a u (w.ok a u q), fun _ e _ => e⟩, e⟩
theorem upd_self {H : Hp} {a : Addr} {o : HO} (h : H a = some o) : L2.upd H a o = H := by
  funext b
  unfold L2.upd
  split
  · rename_i e; rw [e, h]
  · rfl
/-- a draw's promise -/
def sp_l_draw : Sp := fun vs H Q _ => ∃ b m I, vs = [.ref b, .int m] ∧ 0 < m ∧ m.natAbs.log2 < 9000 ∧ W b I H ∧ ∀ (n : Int) o, 0 ≤ n → n < m → BagO I o → Q (.int n) (L2.upd H b o)
def sp_l_bag (K : Fr) : Sp := fun vs H Q _ => ∃ (a : Addr) (ns : List Int), vs = [.ref a] ∧ SqL K H a (ns.map V.int) ∧ ns.length ≤ 63 ∧ ∀ b I' H', Same H I' → W b I' H' → H b = none → Q (.ref b) H'

/-- the same promises, for use: the heap behind is any that agrees but for the bag -/
def But (b : Addr) (H H' : Hp) : Prop := ∀ a, a ≠ b → H' a = H a
theorem But.upd {b : Addr} {H : Hp} {o : HO} : But b H (L2.upd H b o) := fun a h => upd_ne h
theorem But.trans {b : Addr} {H H1 H2 : Hp} (x : But b H H1) (y : But b H1 H2) : But b H H2 := fun a h => (y a h).trans (x a h)
theorem But.refl (b : Addr) (H : Hp) : But b H H := fun _ _ => rfl
def sp_l_any (K : Fr) : Sp := fun vs H Q _ => ∃ (b : Addr) (I : Hp), W b I H ∧ ((∃ (t : Addr) (xs : List V), vs = [.ref b, .ref t] ∧ (SqL K I t xs ∨ SqT K I t xs) ∧ 0 < xs.length ∧ xs.length ≤ 100000 ∧ ∀ (j : Nat) x o, xs[j]? = some x → BagO I o → Q x (L2.upd H b o)) ∨
  ∃ (z : Str), vs = [.ref b, .str z] ∧ 0 < z.length ∧ z.length ≤ 100000 ∧ ∀ (j : Nat) c o, z.cps.toList[j]? = some c → BagO I o → Q (.str ⟨#[c]⟩) (L2.upd H b o))
theorem e_lenR {K : Fr} {H : Hp} {p : Addr} {n : Nat} : LenV K (.ref p) H n = ((∃ xs, SqL K H p xs ∧ n = xs.length) ∨ ∃ xs, SqT K H p xs ∧ n = xs.length) := rfl
theorem e_lenS {K : Fr} {H : Hp} {y : Str} {n : Nat} : LenV K (.str y) H n = (y.length ≤ sizeLine ∧ n = y.length) := rfl
theorem lgLen {n : Nat} (h : n ≤ 100000) : (n : Int).natAbs.log2 < 9000 := by
  have h1 : (n : Int).natAbs < 2 ^ 20 := by rw [Int.natAbs_natCast]; omega
  exact Nat.lt_trans (lg_lt h1 (by decide)) (by decide)
theorem w_ixA {K : Fr} {H : Hp} {Q : VK} {p : Addr} {m : Int} {xs : List V} {x : V} (h : SqL K H p xs ∨ SqT K H p xs) (e : atI xs m = some x) (q : Q x H) : rIx K (.ref p) (.int m) H Q := by
  rcases h with h | h
  · exact .inl ⟨p, xs, m, x, rfl, rfl, h, e, q⟩
  · exact .inr (.inl ⟨p, xs, m, x, rfl, rfl, h, e, q⟩)
theorem w_ixAS {K : Fr} {H : Hp} {Q : VK} {m : Int} {z : Str} {c : Nat} (hz : z.length ≤ sizeLine) (e : atI z.cps.toList m = some c) (q : Q (.str ⟨#[c]⟩) H) : rIx K (.str z) (.int m) H Q := .inr (.inr ⟨z, m, c, rfl, rfl, hz, e, q⟩)
theorem seqA {K : Fr} {H H' : Hp} {p : Addr} {xs : List V} (s : Same H H') (h : SqL K H p xs ∨ SqT K H p xs) : SqL K H' p xs ∨ SqT K H' p xs := h.imp (fun h => s.seq h) (fun h => seqT s h)
theorem natGet {α : Type} {xs : List α} {n : Int} (h0 : 0 ≤ n) (h1 : n < xs.length) : ∃ x, xs[n.toNat]? = some x ∧ atI xs n = some x := by
  obtain ⟨k, rfl⟩ : ∃ k : Nat, n = (k : Int) := ⟨n.toNat, by omega⟩
  have h : k < xs.length := by omega
  exact ⟨xs[k], by rw [Int.toNat_natCast]; exact List.getElem?_eq_getElem h, atI_nat (List.getElem?_eq_getElem h)⟩

theorem w_mkT {K : Fr} {b : Addr} {I H : Hp} {xs : List V} {ds : List PyData} {Q : VK} (w : W b I H) (hl : xs.length ≤ 100000) (d : DpAll K I xs ds) (k : ∀ v I' H', W b I' H' → Same I I' → Dp K I' v (.tuple ds) → Q v H') : MkT xs H Q :=
  ⟨szle hl, fun _ hp => k _ _ _ (w.new hp) (sameUpd w.ok hp) (dpNewT (dpmA d (sameUpd w.ok hp)))⟩
theorem w_mkL {K : Fr} {b : Addr} {I H : Hp} {xs : List V} {ds : List PyData} {Q : VK} (w : W b I H) (hl : xs.length ≤ 100000) (d : DpAll K I xs ds) (k : ∀ v I' H', W b I' H' → Same I I' → Dp K I' v (.list ds) → Q v H') : MkL xs H Q :=
  ⟨szle hl, fun _ hp => k _ _ _ (w.new hp) (sameUpd w.ok hp) (dpNewL (dpmA d (sameUpd w.ok hp)))⟩
theorem w_mkL2 {K : Fr} {b : Addr} {I H : Hp} {xs : List V} {ds : List PyData} {Q : VK} (w : W b I H) (hl : xs.length ≤ 100000) (d : DpAll K I xs ds) (k : ∀ p I' H', W b I' H' → Same I I' → I' p = some (.lst xs) → Dp K I' (.ref p) (.list ds) → Q (.ref p) H') : MkL xs H Q :=
  ⟨szle hl, fun _ hp => k _ _ _ (w.new hp) (sameUpd w.ok hp) upd_same (dpNewL (dpmA d (sameUpd w.ok hp)))⟩
theorem w_catD {K : Fr} {b : Addr} {I H : Hp} {p q : Addr} {xs ys : List V} {ds es : List PyData} {Q : VK} (w : W b I H) (hp : I p = some (.lst xs)) (hq : I q = some (.lst ys)) (hl : xs.length + ys.length ≤ 100000) (d : DpAll K I xs ds) (e : DpAll K I ys es)
    (k : ∀ r I' H', W b I' H' → Same I I' → I' r = some (.lst (xs ++ ys)) → Dp K I' (.ref r) (.list (ds ++ es)) → Q (.ref r) H') : rCat (.ref p) (.ref q) H Q :=
  ⟨p, q, xs, ys, rfl, rfl, w.ok _ _ hp, w.ok _ _ hq, szle hl, fun _ hr => k _ _ _ (w.new hr) (sameUpd w.ok hr) upd_same (dpNewL (dpmA (dpAppend d e) (sameUpd w.ok hr)))⟩
/-- a tuple's and a list's data, taken apart -/
theorem dpTup {K : Fr} {I : Hp} {v : V} {ds : List PyData} (h : Dp K I v (.tuple ds)) : ∃ p xs, v = .ref p ∧ SqT K I p xs ∧ DpAll K I xs ds := by
  cases h with
  | tup a b => exact ⟨_, _, rfl, a, b⟩
theorem dpLst {K : Fr} {I : Hp} {v : V} {ds : List PyData} (h : Dp K I v (.list ds)) : ∃ p xs, v = .ref p ∧ SqL K I p xs ∧ DpAll K I xs ds := by
  cases h with
  | lst a b => exact ⟨_, _, rfl, a, b⟩
theorem dpIntI {K : Fr} {I : Hp} {v : V} {n : Int} (h : Dp K I v (.int n)) : v = .int n := by cases h; rfl
theorem dpStrI {K : Fr} {I : Hp} {v : V} {n : Str} (h : Dp K I v (.str n)) : v = .str n := by cases h; rfl
theorem dpBlI {K : Fr} {I : Hp} {v : V} {n : Bool} (h : Dp K I v (.bool n)) : v = .bl n := by cases h; rfl
theorem w_anyD {K : Fr} {b : Addr} {I H : Hp} {v : V} {ds : List PyData} {Q : VK} {E : XK} (w : W b I H) (d : Dp K I v (.list ds) ∨ Dp K I v (.tuple ds)) (h0 : 0 < ds.length) (h1 : ds.length ≤ 100000) (k : ∀ (j : Nat) x d H', ds[j]? = some d → Dp K I x d → W b I H' → But b H H' → Q x H') : sp_l_any K [.ref b, v] H Q E := by
  rcases d with d | d
  · obtain ⟨p, xs, rfl, hs, ha⟩ := dpLst d
    have l := dpLen ha
    refine ⟨b, I, w, .inl ⟨p, xs, rfl, .inl hs, by omega, by omega, fun j x o e ho => ?_⟩⟩
    obtain ⟨d, e1, e2⟩ := dpGetV ha e
    exact k j x d _ e1 e2 (w.upd ho) fun a h => upd_ne h
  · obtain ⟨p, xs, rfl, hs, ha⟩ := dpTup d
    have l := dpLen ha
    refine ⟨b, I, w, .inl ⟨p, xs, rfl, .inr hs, by omega, by omega, fun j x o e ho => ?_⟩⟩
    obtain ⟨d, e1, e2⟩ := dpGetV ha e
    exact k j x d _ e1 e2 (w.upd ho) fun a h => upd_ne h
theorem w_draw {b : Addr} {I H : Hp} {m : Int} {Q : VK} {E : XK} (w : W b I H) (hm : 0 < m) (hm2 : m.natAbs.log2 < 9000) (k : ∀ (n : Int) H', 0 ≤ n → n < m → W b I H' → But b H H' → Q (.int n) H') : sp_l_draw [.ref b, .int m] H Q E :=
  ⟨b, m, I, rfl, hm, hm2, w, fun n o n0 n1 ho => k n _ n0 n1 (w.upd ho) But.upd⟩
theorem w_drawN {b : Addr} {I H : Hp} {m : Nat} {Q : VK} {E : XK} (w : W b I H) (hm : 0 < m) (hm2 : m ≤ 100000) (k : ∀ (n : Nat) H', n < m → W b I H' → But b H H' → Q (.int n) H') : sp_l_draw [.ref b, .int m] H Q E :=
  ⟨b, m, I, rfl, by omega, lgLen hm2, w, fun n o n0 n1 ho => by
    obtain ⟨j, rfl⟩ : ∃ j : Nat, n = (j : Int) := ⟨n.toNat, by omega⟩
    exact k j _ (by omega) (w.upd ho) But.upd⟩
theorem w_anyL {K : Fr} {b t : Addr} {I H : Hp} {xs : List V} {Q : VK} {E : XK} (w : W b I H) (hx : SqL K I t xs ∨ SqT K I t xs) (h0 : 0 < xs.length) (h1 : xs.length ≤ 100000) (k : ∀ (j : Nat) x H', xs[j]? = some x → W b I H' → But b H H' → Q x H') : sp_l_any K [.ref b, .ref t] H Q E :=
  ⟨b, I, w, .inl ⟨t, xs, rfl, hx, h0, h1, fun j x o e ho => k j x _ e (w.upd ho) But.upd⟩⟩
theorem w_anyS {K : Fr} {b : Addr} {I H : Hp} {z : Str} {Q : VK} {E : XK} (w : W b I H) (h0 : 0 < z.length) (h1 : z.length ≤ 100000) (k : ∀ (j : Nat) c H', z.cps.toList[j]? = some c → W b I H' → But b H H' → Q (.str ⟨#[c]⟩) H') : sp_l_any K [.ref b, .str z] H Q E :=
  ⟨b, I, w, .inr ⟨z, rfl, h0, h1, fun j c o e ho => k j c _ e (w.upd ho) But.upd⟩⟩

theorem kitIsK {K : Fr} {d : PyData} {c : String} (h : c = "dict" ∨ c = "list" ∨ c = "tuple" ∨ c = "bool" ∨ c = "int" ∨ c = "str") : PySem.W.kitOne K (.type (tyD d)) (.type c) = some (isB c d) := kit_ty (kitIs h)
theorem w_isiT {K : Fr} {H : Hp} {v : V} {d : PyData} {p : Addr} {Q : VK} (h : Dp K H v d) (hp : H p = some (.tup [.ty "list", .ty "tuple"])) (q : Q (.bl (isB "list" d || isB "tuple" d)) H) : rIsiT K [v, .ref p] H Q := by
  refine ⟨v, p, _, _, [.type "list", .type "tuple"], _, rfl, hp, .cons (.ty _) (.cons (.ty _) .nil), tyx h, ?_, q⟩
  refine kitAny_cons (kitIsK (by simp)) (fun e => ?_) (fun e => by rw [e]; rfl)
  refine kitAny_cons (kitIsK (by simp)) (fun e2 => ?_) (fun e2 => by rw [e2, Bool.or_true])
  rw [e, e2]
  exact kitAny_nil
/-- data of at most so many levels -/
def lkd : Nat → PyData → Bool
  | _, .none => true
  | _, .bool _ => true
  | _, .int _ => true
  | _, .str _ => true
  | 0, .list _ => false
  | 0, .tuple _ => false
  | n + 1, .list ds => decide (ds.length ≤ 1000) && ds.all (lkd n)
  | n + 1, .tuple ds => decide (ds.length ≤ 1000) && ds.all (lkd n)
  | _, .dict _ => false
def sp_l_like (K : Fr) (n : Nat) : Sp := fun vs H Q _ => ∃ v w d, vs = [v, w] ∧ Dp K H v d ∧ Dp K H w d ∧ lkd n d = true ∧ ∀ H', Same H H' → Q (.bl true) H'
theorem w_like {K : Fr} {b : Addr} {I H : Hp} {n : Nat} {v u : V} {Q : VK} {E : XK} (w : W b I H) (d : PyData) (h1 : Dp K I v d) (h2 : Dp K I u d) (hd : lkd n d = true) (k : ∀ H', W b I H' → Same H H' → Q (.bl true) H') : sp_l_like K n [v, u] H Q E :=
  ⟨v, u, d, rfl, dpm h1 w.ok, dpm h2 w.ok, hd, fun H' s => k H' (w.same s) s⟩
def sp_never : Sp := fun _ _ _ _ => False
def sp_l_likeP (K : Fr) : Nat → Sp
  | 0 => sp_never
  | n + 1 => sp_l_like K n
theorem fn_never {P : Program} {w : World} {K : Fr} {mg : Str → Option Value} {base : Heap} {CX : CXT} {k : Nat} {f : Addr} {fd : FuncData} {ps : List Str} : FnOk P w K mg base CX k f fd ps sp_never :=
  ⟨fun _ _ _ _ h => h.elim, fun _ _ _ _ _ _ _ _ _ _ _ _ _ h => h.elim⟩

/-- a tuple that the top has written -/
def TupK (K : Fr) (a : Addr) (xs : List V) : Prop := ∃ (o : Obj) (its : Array Value) (n : Nat), K.lookup a = some o ∧ o.cls = .type "tuple" ∧ o.data = .seq its n ∧ its.size ≤ sizeLine ∧ Vals xs its.toList
theorem TupK.at {K : Fr} {a : Addr} {xs : List V} (h : TupK K a xs) (H : Hp) : SqT K H a xs := .inr h
/-- a law's promise -/
def spLaw (K : Fr) : Sp := fun vs H Q _ => ∃ (a : Addr) (ns : List Int), vs = [.ref a] ∧ SqL K H a (ns.map V.int) ∧ ns.length ≤ 63 ∧ ∀ H', Q (.bl true) H'
end G

set_option Elab.async false
set_option linter.all false
set_option maxRecDepth 100000
set_option maxHeartbeats 4000000
open PySem L2 G
local macro_rules | `(tactic| wtm_at "e") => `(tactic| simp only [e_seq, e_next, e_brk, e_cont, e_drop, e_ret, e_retN, e_asg, e_if, e_par, e_par3, e_for, e_name, e_gsub, e_gtup, e_gnil, e_gcons, e_setL, e_var, e_c, e_op, e_un, e_nil, e_cons, e_tup, e_lst, e_call, e_CB, e_callN, e_test, e_B, e_and, e_or, e_not, e_andV, e_orV, e_notV, e_ifE, e_chain, e_sl, e_nopart, e_part, e_bm, e_bm0, e_m0, e_m1, e_fmt, e_js0, e_js, e_lc, e_yes, e_iList, e_iTup, e_iR1, e_iR2, e_iStr, e_iEnum, e_I0, e_I, e_U, e_eqI, e_neI, e_eqS, e_neS, e_eqB, e_neB, e_isB, e_notB, e_ixL, e_ixT, e_ixS, e_slS, e_slL, e_app, e_pop, e_K, e_noxK, and_assoc, reduceCtorEq, false_and, and_false, exists_false, false_or, or_false, isB_dict_none, isB_dict_bool, isB_dict_int, isB_dict_str, isB_dict_list, isB_dict_tuple, isB_list_none, isB_list_bool, isB_list_int, isB_list_str, isB_list_list, isB_list_tuple, isB_tuple_none, isB_tuple_bool, isB_tuple_int, isB_tuple_str, isB_tuple_list, isB_tuple_tuple, isB_bool_none, isB_bool_bool, isB_bool_int, isB_bool_str, isB_bool_list, isB_bool_tuple, isB_int_none, isB_int_bool, isB_int_int, isB_int_str, isB_int_list, isB_int_tuple, isB_str_none, isB_str_bool, isB_str_int, isB_str_str, isB_str_list, isB_str_tuple, upd_upd, Int.reduceToNat, e_lenR, e_lenS, e_lenV, e_lenQ, decide_true, decide_false, Bool.not_true, Bool.not_false, Bool.or_false, Bool.or_true, Bool.false_or, Bool.true_or, not_true_eq_false, not_false_eq_true, ne_eq, e_szT, e_szL, List.cons.injEq, List.append_nil, V.int.injEq, V.str.injEq, V.bl.injEq, V.ref.injEq, V.ty.injEq, and_true, true_and, and_self, exists_eq_left, exists_eq_left', exists_eq, exists_eq', exists_eq_right, exists_eq_right', exists_and_left, L2.start, List.map_cons, List.map_nil, List.length_cons, List.length_nil, List.replicate_zero, List.replicate_succ, List.cons_append, List.nil_append, Nat.zero_add, Nat.sub_self, Nat.reduceSub, Nat.reduceAdd, Nat.add_sub_cancel, List.set_cons_zero, List.set_cons_succ, List.getElem?_cons_zero, List.getElem?_cons_succ, Option.some.injEq, Nat.reduceLeDiff, Nat.reduceLT, decide_eq_true_eq, Bool.not_eq_true', decide_eq_false_iff_not, Bool.false_eq_true, if_true, if_false, reduceIte, wipe])
local macro_rules | `(tactic| wtm_at "k") => `(tactic| first | ((with_reducible refine w_kt ?_); try wtm_at "e") | (wtm_at "e"; (with_reducible refine w_kt ?_); try wtm_at "e"))
local macro_rules | `(tactic| wtm_at "rb") => `(tactic| repeat (first | refine ⟨_, SqL.of upd_same, _, rfl, ?_⟩ | refine ⟨_, upd_same, _, rfl, ?_⟩ | wtm_at "e"))
local macro_rules | `(tactic| wtm_at "krb") => `(tactic| ((with_reducible refine w_kt ?_); wtm_at "rb"))
local macro_rules | `(tactic| wtm_at "dp") => `(tactic| first | assumption | (refine dpm ?_ (by assumption); wtm_at "dp"))
local macro_rules | `(tactic| wtm_at "E") => `(tactic| try wtm_at "e")
local macro_rules | `(tactic| wtm_at "s1") => `(tactic| first | ((with_reducible refine' s_var ?hv ?_); (case hv => exact rfl)) | with_reducible refine s_c ?_ | with_reducible refine s_I0 ?_ | with_reducible refine s_U ?_ | with_reducible refine s_seq ?_ | with_reducible refine s_next ?_ | with_reducible refine s_brk ?_ | with_reducible refine s_cont ?_ | with_reducible refine s_drop ?_ | with_reducible refine s_ret ?_ | with_reducible refine s_retN ?_ | with_reducible refine s_asg ?_ | with_reducible refine s_if ?_ | with_reducible refine s_par ?_ | with_reducible refine s_par3 ?_ | with_reducible refine s_for ?_ | with_reducible refine s_name ?_ | with_reducible refine s_gsub ?_ | with_reducible refine s_gnil ?_ | with_reducible refine s_op ?_ | with_reducible refine s_un ?_ | with_reducible refine s_nil ?_ | with_reducible refine s_cons ?_ | with_reducible refine s_tup ?_ | with_reducible refine s_lst ?_ | with_reducible refine s_call0 ?_ | with_reducible refine s_call ?_ | with_reducible refine s_callN ?_ | with_reducible refine s_CB ?_ | with_reducible refine s_test ?_ | with_reducible refine s_B ?_ | with_reducible refine s_and ?_ | with_reducible refine s_or ?_ | with_reducible refine s_not ?_ | with_reducible refine s_andV ?_ | with_reducible refine s_orV ?_ | with_reducible refine s_notV ?_ | with_reducible refine s_ifE ?_ | with_reducible refine s_chain ?_ | with_reducible refine s_sl ?_ | with_reducible refine s_nopart ?_ | with_reducible refine s_part ?_ | with_reducible refine s_bm ?_ | with_reducible refine s_bm0 ?_ | with_reducible refine s_m0 ?_ | with_reducible refine s_m1 ?_ | with_reducible refine s_fmt ?_ | with_reducible refine s_js0 ?_ | with_reducible refine s_js ?_ | with_reducible refine s_lc ?_ | with_reducible refine s_yes ?_ | with_reducible refine s_iList ?_ | with_reducible refine s_iTup ?_ | with_reducible refine s_iR1 ?_ | with_reducible refine s_iR2 ?_ | with_reducible refine s_iStr ?_ | with_reducible refine s_iEnum ?_)
local macro_rules | `(tactic| wtm_at "s") => `(tactic| repeat wtm_at "s1")
namespace G218
open PySem L2 G

def top (i : Nat) : Stmt := PySem.Challenge.pw_hemprice_k01_fractions.main.body.getD i (.Pass ⟨0, 0, 0, 0⟩)
abbrev s_is_integer : Stmt := top 3
theorem sc_is_integer : FnScope ["value"] ["value"] (defScope s_is_integer) := ⟨rfl, rfl, rfl, by decide +kernel, rfl, by decide +kernel, by decide +kernel⟩
abbrev s_common_divisor : Stmt := top 4
theorem sc_common_divisor : FnScope ["one", "other"] ["one", "other"] (defScope s_common_divisor) := ⟨rfl, rfl, rfl, by decide +kernel, rfl, by decide +kernel, by decide +kernel⟩
abbrev s_fraction : Stmt := top 5
theorem sc_fraction : FnScope ["top", "bottom", "share"] ["top", "bottom"] (defScope s_fraction) := ⟨rfl, rfl, rfl, by decide +kernel, rfl, by decide +kernel, by decide +kernel⟩
abbrev s_plus : Stmt := top 6
theorem sc_plus : FnScope ["one", "other"] ["one", "other"] (defScope s_plus) := ⟨rfl, rfl, rfl, by decide +kernel, rfl, by decide +kernel, by decide +kernel⟩
abbrev s_minus : Stmt := top 7
theorem sc_minus : FnScope ["one", "other"] ["one", "other"] (defScope s_minus) := ⟨rfl, rfl, rfl, by decide +kernel, rfl, by decide +kernel, by decide +kernel⟩
abbrev s_times : Stmt := top 8
theorem sc_times : FnScope ["one", "other"] ["one", "other"] (defScope s_times) := ⟨rfl, rfl, rfl, by decide +kernel, rfl, by decide +kernel, by decide +kernel⟩
abbrev s_is_less : Stmt := top 9
theorem sc_is_less : FnScope ["one", "other"] ["one", "other"] (defScope s_is_less) := ⟨rfl, rfl, rfl, by decide +kernel, rfl, by decide +kernel, by decide +kernel⟩
abbrev s_is_fraction : Stmt := top 10
theorem sc_is_fraction : FnScope ["value", "part"] ["value"] (defScope s_is_fraction) := ⟨rfl, rfl, rfl, by decide +kernel, rfl, by decide +kernel, by decide +kernel⟩
abbrev s_fraction_text : Stmt := top 11
theorem sc_fraction_text : FnScope ["value"] ["value"] (defScope s_fraction_text) := ⟨rfl, rfl, rfl, by decide +kernel, rfl, by decide +kernel, by decide +kernel⟩
abbrev s_l_bag : Stmt := top 13
theorem sc_l_bag : FnScope ["_law_script"] ["_law_script"] (defScope s_l_bag) := ⟨rfl, rfl, rfl, by decide +kernel, rfl, by decide +kernel, by decide +kernel⟩
abbrev s_l_draw : Stmt := top 14
theorem sc_l_draw : FnScope ["_law_bag_here", "_law_many", "_law_cell", "_law_found", "_law_seed"] ["_law_bag_here", "_law_many"] (defScope s_l_draw) := ⟨rfl, rfl, rfl, by decide +kernel, rfl, by decide +kernel, by decide +kernel⟩
abbrev s_l_any : Stmt := top 15
theorem sc_l_any : FnScope ["_law_bag_here", "_law_things"] ["_law_bag_here", "_law_things"] (defScope s_l_any) := ⟨rfl, rfl, rfl, by decide +kernel, rfl, by decide +kernel, by decide +kernel⟩
abbrev s_l_top : Stmt := top 16
theorem sc_l_top : FnScope ["_law_bag_here"] ["_law_bag_here"] (defScope s_l_top) := ⟨rfl, rfl, rfl, by decide +kernel, rfl, by decide +kernel, by decide +kernel⟩
abbrev s_l_gcd : Stmt := top 17
theorem sc_l_gcd : FnScope ["_law_one", "_law_other"] ["_law_one", "_law_other"] (defScope s_l_gcd) := ⟨rfl, rfl, rfl, by decide +kernel, rfl, by decide +kernel, by decide +kernel⟩
abbrev s_l_low : Stmt := top 18
theorem sc_l_low : FnScope ["_law_above", "_law_below", "_law_share"] ["_law_above", "_law_below"] (defScope s_l_low) := ⟨rfl, rfl, rfl, by decide +kernel, rfl, by decide +kernel, by decide +kernel⟩
abbrev s_l_like : Stmt := top 19
theorem sc_l_like : FnScope ["_law_found", "_law_due", "_law_pairs", "_law_at"] ["_law_found", "_law_due"] (defScope s_l_like) := ⟨rfl, rfl, rfl, by decide +kernel, rfl, by decide +kernel, by decide +kernel⟩
abbrev s_law : Stmt := top 20
theorem sc_law : FnScope ["_law_script", "_law_bag_here", "_law_again", "_law_a", "_law_b", "_law_c", "_law_d", "_law_one", "_law_other", "_law_turn", "_law_told", "_law_due", "_law_words", "_law_odd"] ["_law_script"] (defScope s_law) := ⟨rfl, rfl, rfl, by decide +kernel, rfl, by decide +kernel, by decide +kernel⟩
structure Tx (K : PySem.W.Frag) (mg : Str → Option Value) where
  a_is_integer : Addr
  d_is_integer : FuncData
  F_is_integer : Fun K "is_integer" "is_integer" s_is_integer a_is_integer d_is_integer
  g_is_integer : mg "is_integer" = some (.ref a_is_integer)
  a_common_divisor : Addr
  d_common_divisor : FuncData
  F_common_divisor : Fun K "common_divisor" "common_divisor" s_common_divisor a_common_divisor d_common_divisor
  g_common_divisor : mg "common_divisor" = some (.ref a_common_divisor)
  a_fraction : Addr
  d_fraction : FuncData
  F_fraction : FunD K "fraction" "fraction" (defArgs s_fraction) (defBody s_fraction) (defScope s_fraction) [.int 1] [] a_fraction d_fraction
  g_fraction : mg "fraction" = some (.ref a_fraction)
  a_plus : Addr
  d_plus : FuncData
  F_plus : Fun K "plus" "plus" s_plus a_plus d_plus
  g_plus : mg "plus" = some (.ref a_plus)
  a_minus : Addr
  d_minus : FuncData
  F_minus : Fun K "minus" "minus" s_minus a_minus d_minus
  g_minus : mg "minus" = some (.ref a_minus)
  a_times : Addr
  d_times : FuncData
  F_times : Fun K "times" "times" s_times a_times d_times
  g_times : mg "times" = some (.ref a_times)
  a_is_less : Addr
  d_is_less : FuncData
  F_is_less : Fun K "is_less" "is_less" s_is_less a_is_less d_is_less
  g_is_less : mg "is_less" = some (.ref a_is_less)
  a_is_fraction : Addr
  d_is_fraction : FuncData
  F_is_fraction : Fun K "is_fraction" "is_fraction" s_is_fraction a_is_fraction d_is_fraction
  g_is_fraction : mg "is_fraction" = some (.ref a_is_fraction)
  a_fraction_text : Addr
  d_fraction_text : FuncData
  F_fraction_text : Fun K "fraction_text" "fraction_text" s_fraction_text a_fraction_text d_fraction_text
  g_fraction_text : mg "fraction_text" = some (.ref a_fraction_text)
  a_l_bag : Addr
  d_l_bag : FuncData
  F_l_bag : Fun K "_law_bag" "_law_bag" s_l_bag a_l_bag d_l_bag
  g_l_bag : mg "_law_bag" = some (.ref a_l_bag)
  a_l_draw : Addr
  d_l_draw : FuncData
  F_l_draw : Fun K "_law_draw" "_law_draw" s_l_draw a_l_draw d_l_draw
  g_l_draw : mg "_law_draw" = some (.ref a_l_draw)
  a_l_any : Addr
  d_l_any : FuncData
  F_l_any : Fun K "_law_any" "_law_any" s_l_any a_l_any d_l_any
  g_l_any : mg "_law_any" = some (.ref a_l_any)
  a_l_top : Addr
  d_l_top : FuncData
  F_l_top : Fun K "_law_top" "_law_top" s_l_top a_l_top d_l_top
  g_l_top : mg "_law_top" = some (.ref a_l_top)
  a_l_gcd : Addr
  d_l_gcd : FuncData
  F_l_gcd : Fun K "_law_gcd" "_law_gcd" s_l_gcd a_l_gcd d_l_gcd
  g_l_gcd : mg "_law_gcd" = some (.ref a_l_gcd)
  a_l_low : Addr
  d_l_low : FuncData
  F_l_low : Fun K "_law_low" "_law_low" s_l_low a_l_low d_l_low
  g_l_low : mg "_law_low" = some (.ref a_l_low)
  a_l_like : Addr
  d_l_like : FuncData
  F_l_like : Fun K "_law_like" "_law_like" s_l_like a_l_like d_l_like
  g_l_like : mg "_law_like" = some (.ref a_l_like)
  a_law : Addr
  d_law : FuncData
  F_law : Fun K "law" "law" s_law a_law d_law
  g_law : mg "law" = some (.ref a_law)
  a_ONE : Addr
  g_ONE : mg "ONE" = some (.ref a_ONE)
  k_ONE : TupK K a_ONE [.int 1, .int 1]
  a_ZERO : Addr
  g_ZERO : mg "ZERO" = some (.ref a_ZERO)
  k_ZERO : TupK K a_ZERO [.int 0, .int 1]
  z_abs : mg "abs" = none
  z_all : mg "all" = none
  z_bool : mg "bool" = none
  z_dict : mg "dict" = none
  z_int : mg "int" = none
  z_isinstance : mg "isinstance" = none
  z_len : mg "len" = none
  z_list : mg "list" = none
  z_range : mg "range" = none
  z_str : mg "str" = none
  z_tuple : mg "tuple" = none
section
variable {P : Program} {w : World} {K : PySem.W.Frag} {mg : Str → Option Value} {base : Heap} (T : Tx K mg)
def isIntB (d : PyData) : Bool := isB "int" d && !isB "bool" d
def sp_is_integer (K : Fr) : Sp := fun vs H Q _ => ∃ v d, vs = [v] ∧ Dp K H v d ∧ Q (.bl (isIntB d)) H
theorem ok_is_integer : FnOk P w K mg base CX0 1 T.a_is_integer T.d_is_integer ["value"] (sp_is_integer K) := by
  refine T.F_is_integer.ok sc_is_integer (fun vs H Q E h => ?_) (fun cdv A outer s H vs Q E hr h => ?_)
  · obtain ⟨v, d, rfl, _⟩ := h
    rfl
  · obtain ⟨v, d, rfl, hd, q⟩ := h
    refine ⟨_, (pss_one (ps_ret ((pe_and (pe_callB (r := rIsi K) call_isi (by rfl) T.z_isinstance (by decide +kernel) (pa_cons (pv 0) (pa_cons (pe_tyN "int" (by rfl) T.z_int (by decide +kernel)) pa_nil))) (pe_one (pe_not (pe_callB (r := rIsi K) call_isi (by rfl) T.z_isinstance (by decide +kernel) (pa_cons (pv 0) (pa_cons (pe_tyN "bool" (by rfl) T.z_bool (by decide +kernel)) pa_nil))))))))), ?_⟩
    wtm_at "e"
    refine w_isi hd (by simp) ?_
    wtm_at "e"
    unfold isIntB at q
    refine ifBool (fun e => ?_) (fun e => ?_)
    · refine w_isi hd (by simp) ?_
      wtm_at "e"
      rw [e] at q
      exact q
    · rw [e] at q
      exact q
theorem c_is_integer : Cal P w K mg base CX0 1 "is_integer" T.a_is_integer T.d_is_integer ["value"] (sp_is_integer K) := ⟨ok_is_integer T, T.g_is_integer, T.F_is_integer.kp, T.F_is_integer.binds fun _ _ _ _ _ _ us hl => match us, hl with | [_], _ => rfl⟩
def sp_common_divisor : Sp := fun vs H Q _ => ∃ a b : Int, vs = [.int a, .int b] ∧ Q (.int (Int.gcd a b)) H
theorem ok_common_divisor : FnOk P w K mg base CX0 1 T.a_common_divisor T.d_common_divisor ["one", "other"] sp_common_divisor := by
  refine T.F_common_divisor.ok sc_common_divisor (fun vs H Q E h => ?_) (fun cdv A outer s H vs Q E hr h => ?_)
  · obtain ⟨a, b, rfl, _⟩ := h
    rfl
  · obtain ⟨a, b, rfl, q⟩ := h
    refine ⟨_, (pss_cons (ps_par (i := 0) (j := 1) (by rfl) sc_common_divisor.nd rfl rfl (by decide) rfl rfl (pa_cons (pe_callB call_abs (by rfl) T.z_abs (by decide +kernel) (pa_cons (pv 0) pa_nil)) (pa_cons (pe_callB call_abs (by rfl) T.z_abs (by decide +kernel) (pa_cons (pv 1) pa_nil)) pa_nil)) (by rfl))
      (pss_cons (ps_while PassesOwn.never (pt_cmpR op_gt (pv 1) (pe_int) (nomark _)) (pss_one (ps_par (i := 0) (j := 1) (by rfl) sc_common_divisor.nd rfl rfl (by decide) rfl rfl (pa_cons (pv 1) (pa_cons (pe_op op_mod (pv 0) (pv 1)) pa_nil)) (by rfl))))
      (pss_one (ps_ret (pv 0))))), ?_⟩
    wtm_at "e"
    wtm_at "k"
    refine w_while (fun m σ H' => ∃ x y : Nat, σ = [some (.int x), some (.int y)] ∧ H' = H ∧ m = y ∧ Nat.gcd x y = Int.gcd a b) b.natAbs ⟨a.natAbs, b.natAbs, by rw [absI, absI], rfl, rfl, rfl⟩ ?_
    rintro m σ H' ⟨x, y, rfl, rfl, rfl, e⟩
    wtm_at "e"
    refine ite2 (fun hy => ?_) (fun hy => ?_)
    · refine w_wb fun N hN => ?_
      wtm_at "e"
      have hy' : 0 < m := by omega
      refine ⟨by omega, hN (x % m) _ _ (Nat.mod_lt x hy') ⟨m, x % m, rfl, rfl, rfl, ?_⟩⟩
      rw [← e, Nat.gcd_comm x m, Nat.gcd_rec m x, Nat.gcd_comm]
    · wtm_at "k"
      have h0 : m = 0 := by omega
      subst h0
      rw [Nat.gcd_zero_right] at e
      rw [e]
      exact q
theorem c_common_divisor : Cal P w K mg base CX0 1 "common_divisor" T.a_common_divisor T.d_common_divisor ["one", "other"] sp_common_divisor := ⟨ok_common_divisor T, T.g_common_divisor, T.F_common_divisor.kp, T.F_common_divisor.binds fun _ _ _ _ _ _ us hl => match us, hl with | [_, _], _ => rfl⟩
/-- what fraction makes of two ints -/
def frG (a b : Int) : Int := if b < 0 then -(Int.gcd a b : Int) else (Int.gcd a b : Int)
def frV (a b : Int) : List V := [.int (a.fdiv (frG a b)), .int (b.fdiv (frG a b))]
def frD (a b : Int) : PyData := .tuple [.int a, .int b]
theorem frD_inv {K : Fr} {H : Hp} {v : V} {a b : Int} (h : Dp K H v (frD a b)) : ∃ p, v = .ref p ∧ SqT K H p [.int a, .int b] := by
  cases h with
  | tup hs ha =>
    cases ha with
    | cons h1 h2 =>
      cases h1
      cases h2 with
      | cons h1 h2 =>
        cases h1
        cases h2
        exact ⟨_, rfl, hs⟩
def sp_fraction : Sp := fun vs H Q _ => ∃ a b : Int, vs = [.int a, .int b] ∧ b ≠ 0 ∧ b.natAbs < 1073741824 ∧ ∀ p, H p = none → Q (.ref p) (upd H p (.tup (frV a b)))
theorem frG_ok {a b : Int} (h : b ≠ 0) (hb : b.natAbs < 1073741824) : CDivN a (frG a b) ∧ CDivN b (frG a b) := by
  have h1 : 0 < Int.gcd a b := Int.gcd_pos_of_ne_zero_right a h
  have h2 : Int.gcd a b ∣ b.natAbs := Int.gcd_dvd_natAbs_right a b
  have h3 : Int.gcd a b ≤ b.natAbs := Nat.le_of_dvd (by omega) h2
  unfold CDivN frG
  split <;> omega
theorem dpInts {K : Fr} {I : Hp} {a b : Int} : DpAll K I [.int a, .int b] [.int a, .int b] := .cons (.int _) (.cons (.int _) .nil)
theorem w_fraction {b : Addr} {I H : Hp} {x y : Int} {Q : VK} {E : XK} {K : Fr} (w : W b I H) (h0 : y ≠ 0) (hl : y.natAbs < 1073741824) (k : ∀ v I' H', W b I' H' → Same I I' → Dp K I' v (frD (x.fdiv (frG x y)) (y.fdiv (frG x y))) → Q v H') : sp_fraction [.int x, .int y] H Q E :=
  ⟨x, y, rfl, h0, hl, (w_mkT (K := K) w (by simp [frV]) dpInts k).2⟩
theorem ok_fraction : FnOk P w K mg base CX0 2 T.a_fraction T.d_fraction ["top", "bottom"] sp_fraction := by
  refine T.F_fraction.ok sc_fraction (fun vs H Q E h => ?_) (fun cdv A outer s H vs Q E hr h => ?_)
  · obtain ⟨a, b, rfl, _⟩ := h
    rfl
  · obtain ⟨a, b, rfl, h1, h2, q⟩ := h
    refine ⟨_, (pss_cons (ps_set (i := 2) sc_fraction.nd rfl (Or.inl rfl) (pe_cal (c_common_divisor T) (hr.mono (by decide)) (pa_cons (pv 0) (pa_cons (pv 1) pa_nil))))
      (pss_cons (ps_if (pt_cmpR op_lt (pv 1) (pe_int) (nomark _)) (pss_one (ps_set (i := 2) sc_fraction.nd rfl (Or.inl rfl) (pe_un un_neg (pv 2)))) pss_nil)
      (pss_one (ps_ret (pe_tup (pa_cons (pe_op op_fdivN (pv 0) (pv 2)) (pa_cons (pe_op op_fdivN (pv 1) (pv 2)) pa_nil))))))), ?_⟩
    wtm_at "e"
    refine ⟨_, _, rfl, ?_⟩
    wtm_at "k"
    obtain ⟨c1, c2⟩ := frG_ok (a := a) h1 h2
    have e : frG a b = if b < 0 then -(Int.gcd a b : Int) else (Int.gcd a b : Int) := rfl
    refine ite2 (fun hb => ?_) (fun hb => ?_)
    · rw [if_pos hb] at e
      wtm_at "k"
      rw [← e]
      exact ⟨c1, c2, w_tupR (by simp) q⟩
    · rw [if_neg hb] at e
      wtm_at "k"
      rw [← e]
      exact ⟨c1, c2, w_tupR (by simp) q⟩
theorem cd_fraction_1 : CalD P w K mg base CX0 2 "fraction" T.a_fraction T.d_fraction ["top", "bottom"] sp_fraction [(V.int 1 : V)] := ⟨ok_fraction T, T.g_fraction, T.F_fraction.kp, T.F_fraction.binds1 1 0 (by simp) rfl fun _ _ _ _ _ _ _ us its h1 h2 => match us, its, h1, h2 with | [_], [_], _, _ => ⟨_, rfl, rfl⟩⟩
def gcd_fraction_1_bottom : {α : Type} → List α → List α → List α → List α := fun {α : Type} (vs ds zs : List α) => match vs, ds, zs with | [a0], [b0], [c0] => [a0, c0] | _, _, _ => []
theorem rcd_fraction_1_bottom {vs ds zs : List V} {us its ws : List Value} (h1 : Vals vs us) (h2 : Vals ds its) (h3 : Vals zs ws) : Vals (gcd_fraction_1_bottom vs ds zs) (gcd_fraction_1_bottom us its ws) := by
  unfold gcd_fraction_1_bottom
  rcases h1 with _ | ⟨_, h1⟩ <;> (try rcases h1 with _ | ⟨_, h1⟩) <;> (try rcases h1 with _ | ⟨_, h1⟩) <;> rcases h2 with _ | ⟨_, h2⟩ <;> (try rcases h2 with _ | ⟨_, h2⟩) <;> rcases h3 with _ | ⟨_, h3⟩ <;> (try rcases h3 with _ | ⟨_, h3⟩) <;> repeat (first | exact Paired.nil | assumption | refine Paired.cons ?_ ?_)
theorem cd_fraction_1_bottom : CalK P w K mg base CX0 2 "fraction" T.a_fraction T.d_fraction ["top", "bottom"] sp_fraction 1 ["bottom"] (fun vs zs => gcd_fraction_1_bottom vs [(V.int 1 : V)] zs) := ⟨ok_fraction T, T.g_fraction, T.F_fraction.kp, kbinds1 T.F_fraction 1 ["bottom"] gcd_fraction_1_bottom (by simp) rcd_fraction_1_bottom fun _ _ _ _ _ _ _ us its ws h1 h2 h3 => match us, its, ws, h1, h2, h3 with | [_], [_], [_], _, _, _ => ⟨_, rfl, rfl⟩⟩
theorem cd_fraction_2 : CalD P w K mg base CX0 2 "fraction" T.a_fraction T.d_fraction ["top", "bottom"] sp_fraction [] := ⟨ok_fraction T, T.g_fraction, T.F_fraction.kp, T.F_fraction.binds1 2 1 (by simp) rfl fun _ _ _ _ _ _ _ us its h1 h2 => match us, its, h1, h2 with | [_, _], [_], _, _ => ⟨_, rfl, rfl⟩⟩
/-- the sizes that the arithmetic of fractions asks -/
structure FrOk (a b c d : Int) : Prop where
  m1 : CMulW a d
  m2 : CMulW c b
  m3 : CMulW b d
  m4 : CMulW a c
  nz : b * d ≠ 0
  lt : (b * d).natAbs < 1073741824
def sp_plus (K : Fr) : Sp := fun vs H Q _ => ∃ v w a b c d, vs = [v, w] ∧ Dp K H v (frD a b) ∧ Dp K H w (frD c d) ∧ FrOk a b c d ∧ ∀ p, H p = none → Q (.ref p) (upd H p (.tup (frV (a * d + c * b) (b * d))))
theorem w_plus {b0 : Addr} {I H : Hp} {v u : V} {a b c d : Int} {Q : VK} {E : XK} {K : Fr} (w : W b0 I H) (h1 : Dp K I v (frD a b)) (h2 : Dp K I u (frD c d)) (ok : FrOk a b c d) (k : ∀ v I' H', W b0 I' H' → Same I I' → Dp K I' v (frD ((a * d + c * b).fdiv (frG (a * d + c * b) (b * d))) ((b * d).fdiv (frG (a * d + c * b) (b * d)))) → Q v H') : sp_plus K [v, u] H Q E :=
  ⟨v, u, a, b, c, d, rfl, dpm h1 w.ok, dpm h2 w.ok, ok, (w_mkT (K := K) w (by simp [frV]) dpInts k).2⟩
theorem ok_plus : FnOk P w K mg base CX0 3 T.a_plus T.d_plus ["one", "other"] (sp_plus K) := by
  refine T.F_plus.ok sc_plus (fun vs H Q E h => ?_) (fun cdv A outer s H vs Q E hr h => ?_)
  · obtain ⟨v, w, a, b, c, d, rfl, _⟩ := h
    rfl
  · obtain ⟨v, w, a, b, c, d, rfl, h1, h2, ok, q⟩ := h
    obtain ⟨p1, rfl, t1⟩ := frD_inv h1
    obtain ⟨p2, rfl, t2⟩ := frD_inv h2
    refine ⟨_, (pss_one (ps_ret (pe_calD (cd_fraction_2 T) (hr.mono (by decide)) (pa_cons (pe_op op_add (pe_op op_mulW (pe_ix (r := rIxT K) ix_tup (pv 0) (pe_int) (fun _ _ => rfl)) (pe_ix (r := rIxT K) ix_tup (pv 1) (pe_int) (fun _ _ => rfl))) (pe_op op_mulW (pe_ix (r := rIxT K) ix_tup (pv 1) (pe_int) (fun _ _ => rfl)) (pe_ix (r := rIxT K) ix_tup (pv 0) (pe_int) (fun _ _ => rfl)))) (pa_cons (pe_op op_mulW (pe_ix (r := rIxT K) ix_tup (pv 0) (pe_int) (fun _ _ => rfl)) (pe_ix (r := rIxT K) ix_tup (pv 1) (pe_int) (fun _ _ => rfl))) pa_nil))))), ?_⟩
    wtm_at "e"
    repeat (first | exact ⟨_, _, rfl, ok.nz, ok.lt, q⟩ | refine ⟨_, t1, _, rfl, ?_⟩ | refine ⟨_, t2, _, rfl, ?_⟩ | refine ⟨by first | exact ok.m1 | exact ok.m2 | exact ok.m3 | exact ok.m4, ?_⟩ | wtm_at "e")
theorem c_plus : Cal P w K mg base CX0 3 "plus" T.a_plus T.d_plus ["one", "other"] (sp_plus K) := ⟨ok_plus T, T.g_plus, T.F_plus.kp, T.F_plus.binds fun _ _ _ _ _ _ us hl => match us, hl with | [_, _], _ => rfl⟩
def sp_minus (K : Fr) : Sp := fun vs H Q _ => ∃ v w a b c d, vs = [v, w] ∧ Dp K H v (frD a b) ∧ Dp K H w (frD c d) ∧ FrOk a b c d ∧ ∀ p, H p = none → Q (.ref p) (upd H p (.tup (frV (a * d - c * b) (b * d))))
theorem w_minus {b0 : Addr} {I H : Hp} {v u : V} {a b c d : Int} {Q : VK} {E : XK} {K : Fr} (w : W b0 I H) (h1 : Dp K I v (frD a b)) (h2 : Dp K I u (frD c d)) (ok : FrOk a b c d) (k : ∀ v I' H', W b0 I' H' → Same I I' → Dp K I' v (frD ((a * d - c * b).fdiv (frG (a * d - c * b) (b * d))) ((b * d).fdiv (frG (a * d - c * b) (b * d)))) → Q v H') : sp_minus K [v, u] H Q E :=
  ⟨v, u, a, b, c, d, rfl, dpm h1 w.ok, dpm h2 w.ok, ok, (w_mkT (K := K) w (by simp [frV]) dpInts k).2⟩
theorem ok_minus : FnOk P w K mg base CX0 3 T.a_minus T.d_minus ["one", "other"] (sp_minus K) := by
  refine T.F_minus.ok sc_minus (fun vs H Q E h => ?_) (fun cdv A outer s H vs Q E hr h => ?_)
  · obtain ⟨v, w, a, b, c, d, rfl, _⟩ := h
    rfl
  · obtain ⟨v, w, a, b, c, d, rfl, h1, h2, ok, q⟩ := h
    obtain ⟨p1, rfl, t1⟩ := frD_inv h1
    obtain ⟨p2, rfl, t2⟩ := frD_inv h2
    refine ⟨_, (pss_one (ps_ret (pe_calD (cd_fraction_2 T) (hr.mono (by decide)) (pa_cons (pe_op op_sub (pe_op op_mulW (pe_ix (r := rIxT K) ix_tup (pv 0) (pe_int) (fun _ _ => rfl)) (pe_ix (r := rIxT K) ix_tup (pv 1) (pe_int) (fun _ _ => rfl))) (pe_op op_mulW (pe_ix (r := rIxT K) ix_tup (pv 1) (pe_int) (fun _ _ => rfl)) (pe_ix (r := rIxT K) ix_tup (pv 0) (pe_int) (fun _ _ => rfl)))) (pa_cons (pe_op op_mulW (pe_ix (r := rIxT K) ix_tup (pv 0) (pe_int) (fun _ _ => rfl)) (pe_ix (r := rIxT K) ix_tup (pv 1) (pe_int) (fun _ _ => rfl))) pa_nil))))), ?_⟩
    wtm_at "e"
    repeat (first | exact ⟨_, _, rfl, ok.nz, ok.lt, q⟩ | refine ⟨_, t1, _, rfl, ?_⟩ | refine ⟨_, t2, _, rfl, ?_⟩ | refine ⟨by first | exact ok.m1 | exact ok.m2 | exact ok.m3 | exact ok.m4, ?_⟩ | wtm_at "e")
theorem c_minus : Cal P w K mg base CX0 3 "minus" T.a_minus T.d_minus ["one", "other"] (sp_minus K) := ⟨ok_minus T, T.g_minus, T.F_minus.kp, T.F_minus.binds fun _ _ _ _ _ _ us hl => match us, hl with | [_, _], _ => rfl⟩
def sp_times (K : Fr) : Sp := fun vs H Q _ => ∃ v w a b c d, vs = [v, w] ∧ Dp K H v (frD a b) ∧ Dp K H w (frD c d) ∧ FrOk a b c d ∧ ∀ p, H p = none → Q (.ref p) (upd H p (.tup (frV (a * c) (b * d))))
theorem w_times {b0 : Addr} {I H : Hp} {v u : V} {a b c d : Int} {Q : VK} {E : XK} {K : Fr} (w : W b0 I H) (h1 : Dp K I v (frD a b)) (h2 : Dp K I u (frD c d)) (ok : FrOk a b c d) (k : ∀ v I' H', W b0 I' H' → Same I I' → Dp K I' v (frD ((a * c).fdiv (frG (a * c) (b * d))) ((b * d).fdiv (frG (a * c) (b * d)))) → Q v H') : sp_times K [v, u] H Q E :=
  ⟨v, u, a, b, c, d, rfl, dpm h1 w.ok, dpm h2 w.ok, ok, (w_mkT (K := K) w (by simp [frV]) dpInts k).2⟩
theorem ok_times : FnOk P w K mg base CX0 3 T.a_times T.d_times ["one", "other"] (sp_times K) := by
  refine T.F_times.ok sc_times (fun vs H Q E h => ?_) (fun cdv A outer s H vs Q E hr h => ?_)
  · obtain ⟨v, w, a, b, c, d, rfl, _⟩ := h
    rfl
  · obtain ⟨v, w, a, b, c, d, rfl, h1, h2, ok, q⟩ := h
    obtain ⟨p1, rfl, t1⟩ := frD_inv h1
    obtain ⟨p2, rfl, t2⟩ := frD_inv h2
    refine ⟨_, (pss_one (ps_ret (pe_calD (cd_fraction_2 T) (hr.mono (by decide)) (pa_cons (pe_op op_mulW (pe_ix (r := rIxT K) ix_tup (pv 0) (pe_int) (fun _ _ => rfl)) (pe_ix (r := rIxT K) ix_tup (pv 1) (pe_int) (fun _ _ => rfl))) (pa_cons (pe_op op_mulW (pe_ix (r := rIxT K) ix_tup (pv 0) (pe_int) (fun _ _ => rfl)) (pe_ix (r := rIxT K) ix_tup (pv 1) (pe_int) (fun _ _ => rfl))) pa_nil))))), ?_⟩
    wtm_at "e"
    repeat (first | exact ⟨_, _, rfl, ok.nz, ok.lt, q⟩ | refine ⟨_, t1, _, rfl, ?_⟩ | refine ⟨_, t2, _, rfl, ?_⟩ | refine ⟨by first | exact ok.m1 | exact ok.m2 | exact ok.m3 | exact ok.m4, ?_⟩ | wtm_at "e")
theorem c_times : Cal P w K mg base CX0 3 "times" T.a_times T.d_times ["one", "other"] (sp_times K) := ⟨ok_times T, T.g_times, T.F_times.kp, T.F_times.binds fun _ _ _ _ _ _ us hl => match us, hl with | [_, _], _ => rfl⟩
def sp_is_less (K : Fr) : Sp := fun vs H Q _ => ∃ v w a b c d, vs = [v, w] ∧ Dp K H v (frD a b) ∧ Dp K H w (frD c d) ∧ CMulW a d ∧ CMulW c b ∧ Q (.bl (decide (a * d < c * b))) H
theorem ok_is_less : FnOk P w K mg base CX0 1 T.a_is_less T.d_is_less ["one", "other"] (sp_is_less K) := by
  refine T.F_is_less.ok sc_is_less (fun vs H Q E h => ?_) (fun cdv A outer s H vs Q E hr h => ?_)
  · obtain ⟨v, w, a, b, c, d, rfl, _⟩ := h
    rfl
  · obtain ⟨v, w, a, b, c, d, rfl, h1, h2, m1, m2, q⟩ := h
    obtain ⟨p1, rfl, t1⟩ := frD_inv h1
    obtain ⟨p2, rfl, t2⟩ := frD_inv h2
    refine ⟨_, (pss_one (ps_ret (pe_cmpR op_lt (pe_op op_mulW (pe_ix (r := rIxT K) ix_tup (pv 0) (pe_int) (fun _ _ => rfl)) (pe_ix (r := rIxT K) ix_tup (pv 1) (pe_int) (fun _ _ => rfl))) (pe_op op_mulW (pe_ix (r := rIxT K) ix_tup (pv 1) (pe_int) (fun _ _ => rfl)) (pe_ix (r := rIxT K) ix_tup (pv 0) (pe_int) (fun _ _ => rfl))) (nomark _)))), ?_⟩
    wtm_at "e"
    repeat (first | exact ⟨m2, q⟩ | refine ⟨_, t1, _, rfl, ?_⟩ | refine ⟨_, t2, _, rfl, ?_⟩ | refine ⟨by first | exact m1 | exact m2, ?_⟩ | wtm_at "e")
theorem c_is_less : Cal P w K mg base CX0 1 "is_less" T.a_is_less T.d_is_less ["one", "other"] (sp_is_less K) := ⟨ok_is_less T, T.g_is_less, T.F_is_less.kp, T.F_is_less.binds fun _ _ _ _ _ _ us hl => match us, hl with | [_, _], _ => rfl⟩
def isFrB : PyData → Bool
  | .tuple [.int a, .int b] => decide (0 < b) && decide (Int.gcd a b = 1)
  | _ => false
theorem isIntB_int {d : PyData} (h : isIntB d = true) : ∃ i, d = .int i := by
  cases d with
  | int i => exact ⟨i, rfl⟩
  | _ => simp [isIntB, isB_int_none, isB_int_bool, isB_bool_bool, isB_int_str, isB_int_list, isB_int_tuple, isB_int_dict] at h
theorem isIntB_yes (i : Int) : isIntB (.int i) = true := by simp [isIntB, isB_int_int, isB_bool_int]
def tshort : PyData → Prop
  | .tuple ds => ds.length ≤ 1000
  | _ => True
def sp_is_fraction (K : Fr) : Sp := fun vs H Q _ => ∃ v d, vs = [v] ∧ Dp K H v d ∧ tshort d ∧ ∀ H', Same H H' → Q (.bl (isFrB d)) H'
theorem ok_is_fraction : FnOk P w K mg base CX0 2 T.a_is_fraction T.d_is_fraction ["value"] (sp_is_fraction K) := by
  refine T.F_is_fraction.ok sc_is_fraction (fun vs H Q E h => ?_) (fun cdv A outer s H vs Q E hr h => ?_)
  · obtain ⟨v, d, rfl, _⟩ := h
    rfl
  · obtain ⟨v, d, rfl, hd, hl, q⟩ := h
    refine ⟨_, (pss_cons (ps_if (PW.pt (pw_or (pt_not (pt_val (pe_callB (r := rIsi K) call_isi (by rfl) T.z_isinstance (by decide +kernel) (pa_cons (pv 0) (pa_cons (pe_tyN "tuple" (by rfl) T.z_tuple (by decide +kernel)) pa_nil))))) (pw_or (pt_cmpR op_ne (pe_callB (r := rLenQ K) call_len_seq (by rfl) T.z_len (by decide +kernel) (pa_cons (pv 0) pa_nil)) (pe_int) (nomark _)) (pw_or1 (pt_not (pt_val (pe_callB (r := rAll K) (cr_all rfl) (by rfl) T.z_all (by decide +kernel) (pa_cons (pe_lc (own := [("part", 1)]) (g := gName 1) (tt := tYes) rfl sc_is_fraction.nd (pi_tup (pv 0)) (blkOk_by (own := [("part", 1)]) (N := ["value", "part"]) (sc := defScope s_is_fraction) (by decide +kernel)) (fun _ _ _ _ _ => (pg_name (i := 1) sc_is_fraction.nd rfl (Or.inl rfl))) (fun _ _ _ _ _ => pts_nil) (fun _ _ _ _ _ => (pe_cal (c_is_integer T) (hr.mono (by decide)) (pa_cons (pv 1) pa_nil)))) pa_nil)))))))) (pss_one (ps_ret (pe_bl))) pss_nil)
      (pss_one (ps_ret ((pe_and (pe_cmpR op_gt (pe_ix (r := rIxT K) ix_tup (pv 0) (pe_int) (fun _ _ => rfl)) (pe_int) (nomark _)) (pe_one (pe_cmpR op_eq (pe_cal (c_common_divisor T) (hr.mono (by decide)) (pa_cons (pe_ix (r := rIxT K) ix_tup (pv 0) (pe_int) (fun _ _ => rfl)) (pa_cons (pe_ix (r := rIxT K) ix_tup (pv 0) (pe_int) (fun _ _ => rfl)) pa_nil))) (pe_int) (nomark _)))))))), ?_⟩
    wtm_at "e"
    refine w_isi hd (by simp) ?_
    cases hd with
    | non => wtm_at "e"; exact q _ (Same.refl H)
    | bl b => wtm_at "e"; exact q _ (Same.refl H)
    | int i => wtm_at "e"; exact q _ (Same.refl H)
    | str x => wtm_at "e"; exact q _ (Same.refl H)
    | lst h1 h2 => wtm_at "e"; exact q _ (Same.refl H)
    | @tup a xs ds hs ha =>
      wtm_at "e"
      have ln := dpLen ha
      refine ⟨xs, .inr hs, ite2 (fun hn => ?_) (fun hn => ?_)⟩
      · have : isFrB (.tuple ds) = false := by
          match ds, ln with
          | [], _ => rfl
          | [d], _ => cases d <;> rfl
          | [_, _], e => exact absurd (by rw [e]; rfl) hn
          | d1 :: d2 :: _ :: _, _ => cases d1 <;> cases d2 <;> rfl
        rw [this] at q
        exact q _ (Same.refl H)
      · refine ⟨⟨_, hs⟩, fun D hD => w_lcT xs (fun i H' => Same H H' ∧ H' D = some (.lst (((ds.take i).map isIntB).map V.bl)))
          ⟨sameNew hD, upd_same⟩ (fun i H' _ h => seqT h.1 hs) ?_ ?_⟩
        · rintro i x H' hi ⟨sm, hl⟩ N hN
          obtain ⟨d, hdi, hx⟩ := dpGetV ha hi
          have hlt : i < ds.length := (List.getElem?_eq_some_iff.mp hdi).1
          wtm_at "e"
          refine ⟨x, d, rfl, dpMono sm _ _ hx, _, hl, small1000 ?_, hN _ ⟨fun b o e => ?_, ?_⟩⟩
          · simp only [List.length_map, List.length_take]; have hh : ds.length ≤ 1000 := by assumption
            omega
          · rw [upd_ne (ne_of_none e hD)]; exact sm b o e
          · rw [upd_same, List.take_succ, hdi]
            simp
        · rintro H' ⟨sm, hl⟩
          rw [ln, List.take_length] at hl
          refine ⟨D, _, rfl, SqL.of hl, ?_⟩
          wtm_at "e"
          obtain ⟨d1, d2, rfl⟩ := list2 (l := ds) (by omega)
          obtain ⟨v1, v2, rfl, h1, h2⟩ := dpA2 ha
          by_cases hb : isIntB d1 = true ∧ isIntB d2 = true
          · obtain ⟨b1, b2⟩ := hb
            obtain ⟨i1, rfl⟩ := isIntB_int b1
            obtain ⟨i2, rfl⟩ := isIntB_int b2
            cases h1
            cases h2
            have hs' := seqT sm hs
            refine ifN (by rw [List.map_cons, List.map_cons, List.map_nil, b1, b2]; decide) ?_
            wtm_at "k"
            refine ⟨_, hs', _, rfl, ?_⟩
            wtm_at "e"
            have e : isFrB (.tuple [.int i1, .int i2]) = (decide (0 < i2) && decide (Int.gcd i1 i2 = 1)) := rfl
            rw [e] at q
            refine ite2 (fun h0 => ?_) (fun h0 => ?_)
            · refine ⟨_, hs', _, rfl, _, hs', _, rfl, i1, i2, by simp, ?_⟩
              wtm_at "e"
              rw [decide_eq_true h0, Bool.true_and] at q
              have e2 : decide ((Int.gcd i1 i2 : Int) = 1) = decide (Int.gcd i1 i2 = 1) := by
                simp only [decide_eq_decide]; omega
              rw [e2]
              exact q _ sm
            · rw [decide_eq_false h0, Bool.false_and] at q
              exact q _ sm
          · have e : isFrB (.tuple [d1, d2]) = false := by
              cases d1 <;> first | rfl | (cases d2 <;> first | rfl | exact absurd ⟨isIntB_yes _, isIntB_yes _⟩ hb)
            rw [e] at q
            refine ifP ?_ (q _ sm)
            simp only [List.map_cons, List.map_nil, List.all_cons, List.all_nil, id, Bool.and_true]
            cases e1 : isIntB d1 <;> cases e2 : isIntB d2 <;> simp_all
theorem c_is_fraction : Cal P w K mg base CX0 2 "is_fraction" T.a_is_fraction T.d_is_fraction ["value"] (sp_is_fraction K) := ⟨ok_is_fraction T, T.g_is_fraction, T.F_is_fraction.kp, T.F_is_fraction.binds fun _ _ _ _ _ _ us hl => match us, hl with | [_], _ => rfl⟩
def frTxt (a b : Int) : Str := if b = 1 then (toString a : String) else ((Str.empty ++ Str.ofString (toString a)) ++ "/") ++ Str.ofString (toString b)
def sp_fraction_text (K : Fr) : Sp := fun vs H Q _ => ∃ v a b, vs = [v] ∧ Dp K H v (frD a b) ∧ a.natAbs.log2 < 1920 ∧ b.natAbs.log2 < 1920 ∧ Q (.str (frTxt a b)) H
theorem ok_fraction_text : FnOk P w K mg base CX0 1 T.a_fraction_text T.d_fraction_text ["value"] (sp_fraction_text K) := by
  refine T.F_fraction_text.ok sc_fraction_text (fun vs H Q E h => ?_) (fun cdv A outer s H vs Q E hr h => ?_)
  · obtain ⟨v, a, b, rfl, _⟩ := h
    rfl
  · obtain ⟨v, a, b, rfl, h1, m1, m2, q⟩ := h
    obtain ⟨p1, rfl, t1⟩ := frD_inv h1
    refine ⟨_, (pss_one (ps_ret (pe_ifExp (pt_cmpR op_eq (pe_ix (r := rIxT K) ix_tup (pv 0) (pe_int) (fun _ _ => rfl)) (pe_int) (nomark _)) (pe_callTy call_str_int (by rfl) T.z_str (by decide +kernel) (pa_cons (pe_ix (r := rIxT K) ix_tup (pv 0) (pe_int) (fun _ _ => rfl)) pa_nil)) (pe_joined (PJ.cons (pe_fmt (pe_ix (r := rIxT K) ix_tup (pv 0) (pe_int) (fun _ _ => rfl))) (PJ.cons pe_str (PJ.cons (pe_fmt (pe_ix (r := rIxT K) ix_tup (pv 0) (pe_int) (fun _ _ => rfl))) PJ.nil))))))), ?_⟩
    wtm_at "e"
    refine ⟨_, t1, _, rfl, ?_⟩
    wtm_at "e"
    refine ite2 (fun hb => ?_) (fun hb => ?_)
    · refine ⟨_, t1, _, rfl, ?_⟩
      wtm_at "e"
      unfold frTxt at q
      rw [if_pos hb] at q
      exact ⟨m1, q⟩
    · refine ⟨_, t1, _, rfl, ?_⟩
      wtm_at "e"
      unfold frTxt at q
      rw [if_neg hb] at q
      have l1 := intLen m1
      have l2 := intLen m2
      have l3 : (Str.ofString "/").length = 1 := by decide +kernel
      have l4 : Str.empty.length = 0 := rfl
      have l5 : sizeLine = 16777216 := sizeLine_eq
      refine ⟨m1, ?_, ?_, _, t1, _, rfl, ?_⟩
      · rw [strLenApp]; omega
      · rw [strLenApp, strLenApp]; omega
      wtm_at "e"
      refine ⟨m2, ?_, q⟩
      rw [strLenApp, strLenApp, strLenApp]; omega
theorem c_fraction_text : Cal P w K mg base CX0 1 "fraction_text" T.a_fraction_text T.d_fraction_text ["value"] (sp_fraction_text K) := ⟨ok_fraction_text T, T.g_fraction_text, T.F_fraction_text.kp, T.F_fraction_text.binds fun _ _ _ _ _ _ us hl => match us, hl with | [_], _ => rfl⟩
theorem ok_l_bag : FnOk P w K mg base CX0 1 T.a_l_bag T.d_l_bag ["_law_script"] (sp_l_bag K) := by
  refine T.F_l_bag.ok sc_l_bag (fun vs H Q E h => ?_) (fun cdv A outer s H vs Q E hr h => ?_)
  · obtain ⟨a, ns, rfl, _⟩ := h
    rfl
  · obtain ⟨a, ns, rfl, hs, hl, q⟩ := h
    refine ⟨_, (pss_one (ps_ret (pe_lst (pa_cons (pe_callTy call_list_of (by rfl) T.z_list (by decide +kernel) (pa_cons (pe_slice (r := rSlL K) sl_list (pv 0) po_none (po_some (pe_int))) pa_nil)) (pa_cons (pe_int) (pa_cons (pe_int) (pa_cons (pe_int) (pa_cons (pe_int) pa_nil)))))))), ?_⟩
    wtm_at "e"
    refine ⟨_, hs, fun p hp => ?_⟩
    refine ⟨_, .inl (SqL.of upd_same), fun l hl' => w_lstR (by simp) fun b hb => ?_⟩
    have e1 : cutV (ns.map V.int) none (some 63) = (ns.take 63).map V.int := by
      unfold cutV
      rw [List.map_take]
      show ((ns.map V.int).drop 0).take _ = _
      rw [List.drop_zero]
      unfold HT.sIx
      simp only [List.length_map]
      rw [List.take_eq_take_iff]
      simp only [List.length_map]
      rw [if_neg (by decide)]
      show min (min 63 ns.length - 0) ns.length = _
      omega
    rw [e1] at hl' hb ⊢
    have s1 : Same H (upd H p (.lst ((ns.take 63).map V.int))) := sameNew hp
    have s2 : Same H (upd (upd H p (.lst ((ns.take 63).map V.int))) l (.lst ((ns.take 63).map V.int))) := s1.trans (sameNew hl')
    refine q b _ _ s2 ⟨sameNew hb, hb, _, upd_same, l, ns.take 63, 0, 0, 3844, 0, rfl, upd_same, by rw [List.length_take]; omega, by decide, by decide, by decide⟩ (s2.free hb)
theorem c_l_bag : Cal P w K mg base CX0 1 "_law_bag" T.a_l_bag T.d_l_bag ["_law_script"] (sp_l_bag K) := ⟨ok_l_bag T, T.g_l_bag, T.F_l_bag.kp, T.F_l_bag.binds fun _ _ _ _ _ _ us hl => match us, hl with | [_], _ => rfl⟩
theorem ok_l_draw : FnOk P w K mg base CX0 1 T.a_l_draw T.d_l_draw ["_law_bag_here", "_law_many"] sp_l_draw := by
  refine T.F_l_draw.ok sc_l_draw (fun vs H Q E h => ?_) (fun cdv A outer s H vs Q E hr h => ?_)
  · obtain ⟨b, m, I, rfl, _⟩ := h
    rfl
  · obtain ⟨b, m, I, rfl, hm, hm2, wb, q⟩ := h
    obtain ⟨o, hb, l, ns, i, x, s, c, rfl, hI, hn, hx, hs0, hs1⟩ := wb.bag
    rw [← upd_self hb]
    have nlb : l ≠ b := fun z => by rw [z, wb.nb] at hI; cases hI
    have hl : ∀ o, SqL K (upd H b o) l (ns.map V.int) := fun o => SqL.of (by rw [upd_ne nlb]; exact wb.ok _ _ hI)
    refine ⟨_, (Evl.pss_cut (ps_if (PW.pt (pw_and (pt_cmpR op_eq (pe_ix (r := rIxL K) ix_list (pv 0) (pe_int) (fun _ _ => rfl)) (pe_int) (nomark _)) (pw_and1 (pt_cmpR op_lt (pe_ix (r := rIxL K) ix_list (pv 0) (pe_int) (fun _ _ => rfl)) (pe_callB (r := rLenQ K) call_len_seq (by rfl) T.z_len (by decide +kernel) (pa_cons (pe_ix (r := rIxL K) ix_list (pv 0) (pe_int) (fun _ _ => rfl)) pa_nil)) (nomark _))))) (pss_cons (ps_set (i := 2) sc_l_draw.nd rfl (Or.inl rfl) (pe_ix (r := rIxL K) ix_list (pe_ix (r := rIxL K) ix_list (pv 0) (pe_int) (fun _ _ => rfl)) (pe_ix (r := rIxL K) ix_list (pv 0) (pe_int) (fun _ _ => rfl)) (fun _ _ => rfl)))
      (pss_cons (ps_asg (pe_op op_add (pe_ix (r := rIxL K) ix_list (pv 0) (pe_int) (fun _ _ => rfl)) (pe_int)) (pg_sub (pv 0) (pe_int) set_list))
      (pss_one (ps_if (pt_cmpR op_ge (pv 2) (pe_op op_pow (pe_int) (pe_int)) (nomark _)) (pss_one (ps_asg (pv 2) (pg_sub (pv 0) (pe_int) set_list))) (pss_one (ps_asg (pe_op op_mod (pe_callTy call_int1 (by rfl) T.z_int (by decide +kernel) (pa_cons (pe_op op_add (pe_op op_add (pe_op op_mul (pe_ix (r := rIxL K) ix_list (pv 0) (pe_int) (fun _ _ => rfl)) (pe_int)) (pe_op op_mul (pe_op op_mod (pe_callTy call_int1 (by rfl) T.z_int (by decide +kernel) (pa_cons (pv 2) pa_nil)) (pe_int)) (pe_int))) (pe_int)) pa_nil)) (pe_int)) (pg_sub (pv 0) (pe_int) set_list))))))) pss_nil)
      (pss_cons (ps_if (pt_cmpR op_gt (pe_ix (r := rIxL K) ix_list (pv 0) (pe_int) (fun _ _ => rfl)) (pe_int) (nomark _)) (pss_cons (ps_set (i := 3) sc_l_draw.nd rfl (Or.inl rfl) (pe_op op_mod (pe_callTy call_int1 (by rfl) T.z_int (by decide +kernel) (pa_cons (pe_ix (r := rIxL K) ix_list (pv 0) (pe_int) (fun _ _ => rfl)) pa_nil)) (pv 1)))
      (pss_cons (ps_asg (pe_op op_fdivW (pe_ix (r := rIxL K) ix_list (pv 0) (pe_int) (fun _ _ => rfl)) (pv 1)) (pg_sub (pv 0) (pe_int) set_list))
      (pss_one (ps_ret (pv 3))))) pss_nil)
      (pss_cons (ps_asg (pe_op op_add (pe_ix (r := rIxL K) ix_list (pv 0) (pe_int) (fun _ _ => rfl)) (pe_int)) (pg_sub (pv 0) (pe_int) set_list))
      (pss_cons (ps_set (i := 4) sc_l_draw.nd rfl (Or.inl rfl) (pe_ix (r := rIxL K) ix_list (pv 0) (pe_int) (fun _ _ => rfl)))
      (pss_cons (ps_asg (pe_op op_mod (pe_callTy call_int1 (by rfl) T.z_int (by decide +kernel) (pa_cons (pe_op op_add (pe_op op_add (pe_op op_add (pe_op op_mulW (pv 4) (pv 4)) (pe_op op_mul (pv 4) (pe_int))) (pe_op op_mul (pe_ix (r := rIxL K) ix_list (pv 0) (pe_int) (fun _ _ => rfl)) (pe_int))) (pe_int)) pa_nil)) (pe_int)) (pg_sub (pv 0) (pe_int) set_list))
      (pss_one (ps_ret (pe_op op_mod (pe_callTy call_int1 (by rfl) T.z_int (by decide +kernel) (pa_cons (pe_op op_add (pe_op op_fdivW (pe_ix (r := rIxL K) ix_list (pv 0) (pe_int) (fun _ _ => rfl)) (pe_int)) (pe_op op_mul (pe_op op_mod (pe_callTy call_int1 (by rfl) T.z_int (by decide +kernel) (pa_cons (pe_ix (r := rIxL K) ix_list (pv 0) (pe_int) (fun _ _ => rfl)) pa_nil)) (pe_int)) (pe_int))) pa_nil)) (pv 1))))))))), ?_⟩
    refine w_cut (fun σ' H' => ∃ v2 o, σ' = [some (.ref b), some (.int m), v2, none, none] ∧ H' = upd H b o ∧ BagO I o) (fun M hM => ?_) ?_
    · wtm_at "e"
      refine ⟨_, SqL.of upd_same, _, rfl, ?_⟩
      wtm_at "e"
      refine ite2 (fun hx0 => ?_) (fun hx0 => ?_)
      · refine ⟨_, SqL.of upd_same, _, rfl, _, SqL.of upd_same, _, rfl, ?_⟩
        wtm_at "E"
        refine ⟨_, .inl (hl _), ?_⟩
        wtm_at "E"
        refine ite2 (fun hi => ?_) (fun hi => ?_)
        · have hi' : i < ns.length := by simpa using hi
          refine ⟨_, SqL.of upd_same, _, rfl, _, SqL.of upd_same, _, rfl, ?_⟩
          wtm_at "e"
          refine ⟨_, hl _, .int ns[i], atI_nat (by rw [List.getElem?_map, List.getElem?_eq_getElem hi']; rfl), ?_⟩
          wtm_at "krb"
          wtm_at "krb"
          refine ⟨⟨by decide, by decide, by decide⟩, ite2 (fun hc => ?_) (fun hc => ?_)⟩
          · wtm_at "rb"
            have e10 : (10 : Int) ^ (18 : Int).toNat = 1000000000000000000 := by decide
            exact hM _ _ ⟨_, _, rfl, rfl, l, ns, i + 1, _, s, c, rfl, hI, hn, by omega, hs0, hs1⟩
          · wtm_at "rb"
            refine ⟨cmulc (by decide) (by decide), by decide, cmulc (by decide) (by decide), by decide, ?_⟩
            wtm_at "rb"
            exact hM _ _ ⟨_, _, rfl, rfl, l, ns, i + 1, x, _, c, rfl, hI, hn, hx, Int.emod_nonneg _ (by decide), Int.emod_lt_of_pos _ (by decide)⟩
        · exact hM _ _ ⟨none, _, rfl, rfl, l, ns, i, x, s, c, rfl, hI, hn, hx, hs0, hs1⟩
      · exact hM _ _ ⟨none, _, rfl, rfl, l, ns, i, x, s, c, rfl, hI, hn, hx, hs0, hs1⟩
    · rintro σ' H' ⟨v2, o, rfl, rfl, l, ns, i, x, s, c, rfl, hI, hn, hx, hs0, hs1⟩
      wtm_at "rb"
      refine ite2 (fun hx0 => ?_) (fun hx0 => ?_)
      · wtm_at "rb"
        refine ⟨hm, ?_⟩
        wtm_at "krb"
        refine ⟨⟨hm, hm2⟩, ?_⟩
        wtm_at "rb"
        wtm_at "krb"
        exact q _ _ (Int.emod_nonneg _ (by omega)) (Int.emod_lt_of_pos _ hm) ⟨l, ns, i, _, s, c, rfl, hI, hn, Int.ediv_nonneg hx (by omega), hs0, hs1⟩
      · wtm_at "krb"
        wtm_at "krb"
        wtm_at "krb"
        have hlg : CMulW s s := wide_mul (a := 32) (b := 32) (by omega) (by omega) (by decide) (by decide) (by decide)
        refine ⟨hlg, cmulc (by decide) (by decide), ?_⟩
        wtm_at "rb"
        refine ⟨cmulc (by decide) (by decide), by decide, ?_⟩
        wtm_at "rb"
        wtm_at "krb"
        refine ⟨⟨by decide, by decide⟩, ?_⟩
        wtm_at "rb"
        refine ⟨by decide, cmulc (by decide) (by decide), hm, ?_⟩
        exact q _ _ (Int.emod_nonneg _ (by omega)) (Int.emod_lt_of_pos _ hm) ⟨l, ns, i, x, _, _, rfl, hI, hn, hx, Int.emod_nonneg _ (by decide), Int.emod_lt_of_pos _ (by decide)⟩
theorem c_l_draw : Cal P w K mg base CX0 1 "_law_draw" T.a_l_draw T.d_l_draw ["_law_bag_here", "_law_many"] sp_l_draw := ⟨ok_l_draw T, T.g_l_draw, T.F_l_draw.kp, T.F_l_draw.binds fun _ _ _ _ _ _ us hl => match us, hl with | [_, _], _ => rfl⟩
theorem ok_l_any : FnOk P w K mg base CX0 2 T.a_l_any T.d_l_any ["_law_bag_here", "_law_things"] (sp_l_any K) := by
  refine T.F_l_any.ok sc_l_any (fun vs H Q E h => ?_) (fun cdv A outer s H vs Q E hr h => ?_)
  · obtain ⟨b, I, wb, ⟨t, xs, rfl, _⟩ | ⟨z, rfl, _⟩⟩ := h <;> rfl
  · refine ⟨_, (pss_one (ps_ret (pe_ix (r := rIx K) ix_seq (pv 1) (pe_cal (c_l_draw T) (hr.mono (by decide)) (pa_cons (pv 0) (pa_cons (pe_callB (r := rLenV K) call_len (by rfl) T.z_len (by decide +kernel) (pa_cons (pv 1) pa_nil)) pa_nil))) (fun _ _ => rfl)))), ?_⟩
    obtain ⟨b, I, wb, ⟨t, xs, rfl, hx, h0, h1, q⟩ | ⟨z, rfl, h0, h1, q⟩⟩ := h
    · wtm_at "e"
      have h2 := seqA wb.ok hx
      refine ⟨xs.length, ?_, ?_⟩
      · rcases h2 with h | h
        · exact .inl ⟨xs, h, rfl⟩
        · exact .inr ⟨xs, h, rfl⟩
      refine ⟨b, _, I, rfl, by omega, lgLen h1, wb, fun n o n0 n1 ho => ?_⟩
      obtain ⟨x, e1, e2⟩ := natGet n0 n1
      exact w_ixA (seqA (wb.upd ho).ok hx) e2 (q _ _ _ e1 ho)
    · wtm_at "e"
      have hz : z.length ≤ sizeLine := by rw [sizeLine_eq]; omega
      refine ⟨hz, b, _, I, rfl, by omega, lgLen h1, wb, fun n o n0 n1 ho => ?_⟩
      have hn : n < z.cps.toList.length := by rw [Array.length_toList]; exact n1
      obtain ⟨x, e1, e2⟩ := natGet n0 hn
      exact w_ixAS hz e2 (q _ _ _ e1 ho)
theorem c_l_any : Cal P w K mg base CX0 2 "_law_any" T.a_l_any T.d_l_any ["_law_bag_here", "_law_things"] (sp_l_any K) := ⟨ok_l_any T, T.g_l_any, T.F_l_any.kp, T.F_l_any.binds fun _ _ _ _ _ _ us hl => match us, hl with | [_, _], _ => rfl⟩
def sp_l_top : Sp := fun vs H Q _ => ∃ b I, vs = [.ref b] ∧ W b I H ∧ ∀ (n : Int) I' H', n.natAbs < 2 ^ 70 → W b I' H' → Same I I' → Q (.int n) H'
theorem ok_l_top : FnOk P w K mg base CX0 3 T.a_l_top T.d_l_top ["_law_bag_here"] sp_l_top := by
  refine T.F_l_top.ok sc_l_top (fun vs H Q E h => ?_) (fun cdv A outer s H vs Q E hr h => ?_)
  · obtain ⟨b, I, rfl, _⟩ := h
    rfl
  · obtain ⟨b, I, rfl, wb, q⟩ := h
    refine ⟨_, (pss_cons (ps_if (pt_cmpR op_eq (pe_cal (c_l_draw T) (hr.mono (by decide)) (pa_cons (pv 0) (pa_cons (pe_int) pa_nil))) (pe_int) (nomark _)) (pss_one (ps_ret (pe_op op_add (pe_op op_mulW (pe_op op_sub (pe_cal (c_l_draw T) (hr.mono (by decide)) (pa_cons (pv 0) (pa_cons (pe_op op_pow (pe_int) (pe_int)) pa_nil))) (pe_op op_mul (pe_int) (pe_op op_pow (pe_int) (pe_int)))) (pe_op op_pow (pe_int) (pe_int))) (pe_cal (c_l_draw T) (hr.mono (by decide)) (pa_cons (pv 0) (pa_cons (pe_int) pa_nil)))))) pss_nil)
      (pss_one (ps_ret (pe_cal (c_l_any T) (hr.mono (by decide)) (pa_cons (pv 0) (pa_cons (pe_lst (pa_cons (pe_int) (pa_cons (pe_int) (pa_cons (pe_un un_neg (pe_int)) (pa_cons (pe_op op_sub (pe_cal (c_l_draw T) (hr.mono (by decide)) (pa_cons (pv 0) (pa_cons (pe_int) pa_nil))) (pe_int)) pa_nil))))) pa_nil)))))), ?_⟩
    wtm_at "e"
    refine w_draw wb (by decide) (lgLen (n := 6) (by decide)) fun n H1 n0 n1 w1 _ => ?_
    wtm_at "e"
    refine ite2 (fun h => ?_) (fun h => ?_)
    · refine ⟨⟨by decide, by decide, by decide⟩, w_draw w1 (by decide) (lg9 (by decide)) fun m H2 m0 m1 w2 _ => ?_⟩
      wtm_at "e"
      have e9 : (10 : Int) ^ 9 = 1000000000 := by decide
      have e8 : (10 : Int) ^ 8 = 100000000 := by decide
      have e11 : (10 : Int) ^ 11 = 100000000000 := by decide
      rw [e9] at m1
      rw [e8, e11]
      refine ⟨⟨by decide, by decide, by decide⟩, cmulc (by decide) (by decide), ⟨by decide, by decide, by decide⟩, wide_mul (a := 40) (b := 40) (by omega) (by decide) (by decide) (by decide) (by decide), ?_⟩
      refine w_draw w2 (by decide) (lg9 (by decide)) fun k H3 k0 k1 w3 _ => ?_
      wtm_at "e"
      exact q _ _ _ (by omega) w3 (fun _ _ e => e)
    · wtm_at "k"
      refine w_draw w1 (by decide) (lgLen (n := 121) (by decide)) fun m H2 m0 m1 w2 _ => ?_
      wtm_at "e"
      refine w_lstR (by simp) fun p hp => ?_
      refine w_anyL (w2.new hp) (.inl (SqL.of upd_same)) (Nat.zero_lt_succ _) (by simp) fun j x H3 hj w3 _ => ?_
      have hx : ∃ k : Int, x = .int k ∧ k.natAbs < 2 ^ 70 := by
        match j, hj with
        | 0, hj => cases hj; exact ⟨0, rfl, by decide⟩
        | 1, hj => cases hj; exact ⟨1, rfl, by decide⟩
        | 2, hj => cases hj; exact ⟨-1, rfl, by decide⟩
        | 3, hj => cases hj; exact ⟨_, rfl, by omega⟩
        | j + 4, hj => cases hj
      obtain ⟨k, rfl, hk⟩ := hx
      exact q k _ _ hk w3 (sameUpd w2.ok hp)
theorem c_l_top : Cal P w K mg base CX0 3 "_law_top" T.a_l_top T.d_l_top ["_law_bag_here"] sp_l_top := ⟨ok_l_top T, T.g_l_top, T.F_l_top.kp, T.F_l_top.binds fun _ _ _ _ _ _ us hl => match us, hl with | [_], _ => rfl⟩
def sp_l_gcd : Sp := fun vs H Q _ => ∃ a b : Int, vs = [.int a, .int b] ∧ Q (.int (Int.gcd a b)) H
theorem ok_l_gcd : FnOk P w K mg base CX0 1 T.a_l_gcd T.d_l_gcd ["_law_one", "_law_other"] sp_l_gcd := by
  refine T.F_l_gcd.ok sc_l_gcd (fun vs H Q E h => ?_) (fun cdv A outer s H vs Q E hr h => ?_)
  · obtain ⟨a, b, rfl, _⟩ := h
    rfl
  · obtain ⟨a, b, rfl, q⟩ := h
    refine ⟨_, (pss_cons (ps_par (i := 0) (j := 1) (by rfl) sc_l_gcd.nd rfl rfl (by decide) rfl rfl (pa_cons (pe_callB call_abs (by rfl) T.z_abs (by decide +kernel) (pa_cons (pv 0) pa_nil)) (pa_cons (pe_callB call_abs (by rfl) T.z_abs (by decide +kernel) (pa_cons (pv 1) pa_nil)) pa_nil)) (by rfl))
      (pss_cons (ps_while PassesOwn.never (pt_cmpR op_gt (pv 1) (pe_int) (nomark _)) (pss_one (ps_par (i := 0) (j := 1) (by rfl) sc_l_gcd.nd rfl rfl (by decide) rfl rfl (pa_cons (pv 1) (pa_cons (pe_op op_mod (pe_callTy call_int1 (by rfl) T.z_int (by decide +kernel) (pa_cons (pv 0) pa_nil)) (pv 1)) pa_nil)) (by rfl))))
      (pss_one (ps_ret (pv 0))))), ?_⟩
    wtm_at "e"
    wtm_at "k"
    refine w_while (fun m σ H' => ∃ x y : Nat, σ = [some (.int x), some (.int y)] ∧ H' = H ∧ m = y ∧ Nat.gcd x y = Int.gcd a b) b.natAbs ⟨a.natAbs, b.natAbs, by rw [absI, absI], rfl, rfl, rfl⟩ ?_
    rintro m σ H' ⟨x, y, rfl, rfl, rfl, e⟩
    wtm_at "e"
    refine ite2 (fun hy => ?_) (fun hy => ?_)
    · refine w_wb fun N hN => ?_
      wtm_at "e"
      have hy' : 0 < m := by omega
      refine ⟨by omega, hN (x % m) _ _ (Nat.mod_lt x hy') ⟨m, x % m, rfl, rfl, rfl, ?_⟩⟩
      rw [← e, Nat.gcd_comm x m, Nat.gcd_rec m x, Nat.gcd_comm]
    · wtm_at "k"
      have h0 : m = 0 := by omega
      subst h0
      rw [Nat.gcd_zero_right] at e
      rw [e]
      exact q
theorem c_l_gcd : Cal P w K mg base CX0 1 "_law_gcd" T.a_l_gcd T.d_l_gcd ["_law_one", "_law_other"] sp_l_gcd := ⟨ok_l_gcd T, T.g_l_gcd, T.F_l_gcd.kp, T.F_l_gcd.binds fun _ _ _ _ _ _ us hl => match us, hl with | [_, _], _ => rfl⟩
def lowV (a b : Int) : List V := [.int (a / Int.gcd a b), .int (b / Int.gcd a b)]
def sp_l_low : Sp := fun vs H Q _ => ∃ a b : Int, vs = [.int a, .int b] ∧ 0 < b ∧ b.natAbs.log2 < 9000 ∧ ∀ p, H p = none → Q (.ref p) (upd H p (.tup (lowV a b)))
theorem lowOk {a b : Int} (h : 0 < b) (h2 : b.natAbs.log2 < 9000) : (0 : Int) < Int.gcd a b ∧ (Int.gcd a b : Int).natAbs.log2 < 9000 := by
  have h1 : 0 < Int.gcd a b := Int.gcd_pos_of_ne_zero_right a (by omega)
  have h2' : Int.gcd a b ∣ b.natAbs := Int.gcd_dvd_natAbs_right a b
  have h3 : Int.gcd a b ≤ b.natAbs := Nat.le_of_dvd (by omega) h2'
  refine ⟨by omega, ?_⟩
  rw [Int.natAbs_natCast]
  rw [Nat.log2_lt (by omega)] at h2 ⊢
  exact Nat.lt_of_le_of_lt h3 h2
theorem w_low {b : Addr} {I H : Hp} {x y : Int} {Q : VK} {E : XK} {K : Fr} (w : W b I H) (h0 : 0 < y) (hl : y.natAbs.log2 < 9000) (k : ∀ v I' H', W b I' H' → Same I I' → Dp K I' v (frD (x / Int.gcd x y) (y / Int.gcd x y)) → Q v H') : sp_l_low [.int x, .int y] H Q E :=
  ⟨x, y, rfl, h0, hl, (w_mkT (K := K) w (by simp [lowV]) dpInts k).2⟩
theorem ok_l_low : FnOk P w K mg base CX0 2 T.a_l_low T.d_l_low ["_law_above", "_law_below"] sp_l_low := by
  refine T.F_l_low.ok sc_l_low (fun vs H Q E h => ?_) (fun cdv A outer s H vs Q E hr h => ?_)
  · obtain ⟨a, b, rfl, _⟩ := h
    rfl
  · obtain ⟨a, b, rfl, h1, h2, q⟩ := h
    refine ⟨_, (pss_cons (ps_set (i := 2) sc_l_low.nd rfl (Or.inl rfl) (pe_cal (c_l_gcd T) (hr.mono (by decide)) (pa_cons (pv 0) (pa_cons (pv 1) pa_nil))))
      (pss_one (ps_ret (pe_tup (pa_cons (pe_op op_fdivW (pv 0) (pv 2)) (pa_cons (pe_op op_fdivW (pv 1) (pv 2)) pa_nil)))))), ?_⟩
    wtm_at "e"
    refine ⟨_, _, rfl, ?_⟩
    wtm_at "k"
    have c := lowOk (a := a) h1 h2
    exact ⟨c, c, w_tupR (by simp) q⟩
theorem c_l_low : Cal P w K mg base CX0 2 "_law_low" T.a_l_low T.d_l_low ["_law_above", "_law_below"] sp_l_low := ⟨ok_l_low T, T.g_l_low, T.F_l_low.kp, T.F_l_low.binds fun _ _ _ _ _ _ us hl => match us, hl with | [_, _], _ => rfl⟩
theorem like_step (n : Nat) (FR : FnOk P w K mg base CX0 n T.a_l_like T.d_l_like ["_law_found", "_law_due"] (sp_l_likeP K n)) : FnOk P w K mg base CX0 (n + 1) T.a_l_like T.d_l_like ["_law_found", "_law_due"] (sp_l_like K n) := by
  have CR : Cal P w K mg base CX0 n "_law_like" T.a_l_like T.d_l_like ["_law_found", "_law_due"] (sp_l_likeP K n) := ⟨FR, T.g_l_like, T.F_l_like.kp, T.F_l_like.binds fun _ _ _ _ _ _ us hl => match us, hl with | [_, _], _ => rfl⟩
  refine T.F_l_like.ok sc_l_like (fun vs H Q E h => ?_) (fun cdv A outer s H vs Q E hr h => ?_)
  · obtain ⟨v, w, d, rfl, _⟩ := h
    rfl
  · obtain ⟨v, w, d, rfl, h1, h2, hd, q⟩ := h
    refine ⟨_, (pss_cons (ps_if (pt_val (pe_callB (r := rIsi K) call_isi (by rfl) T.z_isinstance (by decide +kernel) (pa_cons (pv 1) (pa_cons (pe_tyN "dict" (by rfl) T.z_dict (by decide +kernel)) pa_nil)))) (pss_cons ps_never
      (pss_one ps_never)) pss_nil)
      (pss_cons (ps_if (pt_val (pe_callB (r := rIsiT K) call_isiT (by rfl) T.z_isinstance (by decide +kernel) (pa_cons (pv 1) (pa_cons (pe_tup (pa_cons (pe_tyN "list" (by rfl) T.z_list (by decide +kernel)) (pa_cons (pe_tyN "tuple" (by rfl) T.z_tuple (by decide +kernel)) pa_nil))) pa_nil)))) (pss_cons (ps_if (pt_cmpR op_ne (pe_callB (r := rIsi K) call_isi (by rfl) T.z_isinstance (by decide +kernel) (pa_cons (pv 0) (pa_cons (pe_tyN "list" (by rfl) T.z_list (by decide +kernel)) pa_nil))) (pe_callB (r := rIsi K) call_isi (by rfl) T.z_isinstance (by decide +kernel) (pa_cons (pv 1) (pa_cons (pe_tyN "list" (by rfl) T.z_list (by decide +kernel)) pa_nil))) (nomark _)) (pss_one (ps_ret (pe_bl))) pss_nil)
      (pss_cons (ps_if (PW.pt (pw_or (pt_cmpR op_ne (pe_callB (r := rIsi K) call_isi (by rfl) T.z_isinstance (by decide +kernel) (pa_cons (pv 0) (pa_cons (pe_tyN "tuple" (by rfl) T.z_tuple (by decide +kernel)) pa_nil))) (pe_callB (r := rIsi K) call_isi (by rfl) T.z_isinstance (by decide +kernel) (pa_cons (pv 1) (pa_cons (pe_tyN "tuple" (by rfl) T.z_tuple (by decide +kernel)) pa_nil))) (nomark _)) (pw_or1 (pt_cmpR op_ne (pe_callB (r := rLenV K) call_len (by rfl) T.z_len (by decide +kernel) (pa_cons (pv 0) pa_nil)) (pe_callB (r := rLenV K) call_len (by rfl) T.z_len (by decide +kernel) (pa_cons (pv 1) pa_nil)) (nomark _))))) (pss_one (ps_ret (pe_bl))) pss_nil)
      (pss_one (ps_ret (pe_callB (r := rAll K) (cr_all rfl) (by rfl) T.z_all (by decide +kernel) (pa_cons (pe_lc (own := [("_law_at", 3)]) (g := gName 3) (tt := tYes) rfl sc_l_like.nd (pi_range1 (by rfl) T.z_range (pa_cons (pe_callB (r := rLenV K) call_len (by rfl) T.z_len (by decide +kernel) (pa_cons (pv 1) pa_nil)) pa_nil)) (blkOk_by (own := [("_law_at", 3)]) (N := ["_law_found", "_law_due", "_law_pairs", "_law_at"]) (sc := defScope s_l_like) (by decide +kernel)) (fun _ _ _ _ _ => (pg_name (i := 3) sc_l_like.nd rfl (Or.inl rfl))) (fun _ _ _ _ _ => pts_nil) (fun _ _ _ _ _ => (pe_cal CR hr (pa_cons (pe_ix (r := rIx K) ix_seq (pv 0) (pv 3) (fun _ _ => rfl)) (pa_cons (pe_ix (r := rIx K) ix_seq (pv 1) (pv 3) (fun _ _ => rfl)) pa_nil))))) pa_nil)))))) pss_nil)
      (pss_cons (ps_if (PW.pt (pw_or (pt_cmpR op_isN (pv 1) (pe_non) (nomark _)) (pw_or1 (pt_cmpR op_isN (pv 0) (pe_non) (nomark _))))) (pss_one (ps_ret ((pe_and (pe_cmpR op_isN (pv 1) (pe_non) (nomark _)) (pe_one (pe_cmpR op_isN (pv 0) (pe_non) (nomark _))))))) pss_nil)
      (pss_cons (ps_if (pt_cmpR op_ne (pe_callB (r := rIsi K) call_isi (by rfl) T.z_isinstance (by decide +kernel) (pa_cons (pv 1) (pa_cons (pe_tyN "bool" (by rfl) T.z_bool (by decide +kernel)) pa_nil))) (pe_callB (r := rIsi K) call_isi (by rfl) T.z_isinstance (by decide +kernel) (pa_cons (pv 0) (pa_cons (pe_tyN "bool" (by rfl) T.z_bool (by decide +kernel)) pa_nil))) (nomark _)) (pss_one (ps_ret (pe_bl))) pss_nil)
      (pss_cons (ps_if (pt_cmpR op_ne (pe_callB (r := rIsi K) call_isi (by rfl) T.z_isinstance (by decide +kernel) (pa_cons (pv 1) (pa_cons (pe_tyN "int" (by rfl) T.z_int (by decide +kernel)) pa_nil))) (pe_callB (r := rIsi K) call_isi (by rfl) T.z_isinstance (by decide +kernel) (pa_cons (pv 0) (pa_cons (pe_tyN "int" (by rfl) T.z_int (by decide +kernel)) pa_nil))) (nomark _)) (pss_one (ps_ret (pe_bl))) pss_nil)
      (pss_one (ps_ret ((pe_and (pe_cmpR op_eq (pe_callB (r := rIsi K) call_isi (by rfl) T.z_isinstance (by decide +kernel) (pa_cons (pv 0) (pa_cons (pe_tyN "str" (by rfl) T.z_str (by decide +kernel)) pa_nil))) (pe_callB (r := rIsi K) call_isi (by rfl) T.z_isinstance (by decide +kernel) (pa_cons (pv 1) (pa_cons (pe_tyN "str" (by rfl) T.z_str (by decide +kernel)) pa_nil))) (nomark _)) (pe_one (pe_cmpR op_eq (pv 0) (pv 1) (nomark _)))))))))))), ?_⟩
    wtm_at "e"
    refine w_isi h2 (by simp) ?_
    have nd : isB "dict" d = false := by
      cases d with
      | dict => cases n <;> cases hd
      | _ => first | exact isB_dict_none | exact isB_dict_bool _ | exact isB_dict_int _ | exact isB_dict_str _ | exact isB_dict_list _ | exact isB_dict_tuple _
    rw [nd]
    wtm_at "e"
    wtm_at "k"
    refine w_tupR (by simp) fun p hp => ?_
    have s1 : Same H (upd H p (.tup [.ty "list", .ty "tuple"])) := sameNew hp
    refine w_isiT (dpm h2 s1) upd_same ?_
    have g1 := dpm h1 s1
    have g2 := dpm h2 s1
    generalize upd H p (.tup [.ty "list", .ty "tuple"]) = H1 at s1 g1 g2 ⊢
    cases d with
    | dict => cases n <;> cases hd
    | none =>
      cases g1
      cases g2
      repeat (first | exact q _ s1 | wtm_at "e" | wtm_at "k" | refine w_isi .non (by simp) ?_)
    | bool b =>
      cases g1
      cases g2
      repeat (first | exact q _ s1 | wtm_at "e" | wtm_at "k" | refine w_isi (.bl b) (by simp) ?_)
    | int i =>
      cases g1
      cases g2
      repeat (first | exact q _ s1 | wtm_at "e" | wtm_at "k" | refine w_isi (.int i) (by simp) ?_)
    | str x =>
      cases g1
      cases g2
      repeat (first | exact q _ s1 | wtm_at "e" | wtm_at "k" | refine w_isi (.str x) (by simp) ?_)
    | list ds =>
      cases g1 with
      | lst ha1 hb1 =>
      cases g2 with
      | lst ha2 hb2 =>
      repeat (first | wtm_at "e" | wtm_at "k" | refine w_isi (.lst ha1 hb1) (by simp) ?_ | refine w_isi (.lst ha2 hb2) (by simp) ?_)
      have l1 := dpLen hb1
      have l2 := dpLen hb2
      have hd0 : 0 < n := by cases n with | zero => cases hd | succ n => exact Nat.succ_pos n
      obtain ⟨n, rfl⟩ : ∃ m, n = m + 1 := ⟨n - 1, by omega⟩
      have hd1 : ds.length ≤ 1000 ∧ ∀ d ∈ ds, lkd n d = true := by
        have z : (decide (ds.length ≤ 1000) && ds.all (lkd n)) = true := hd
        rw [Bool.and_eq_true, decide_eq_true_eq, List.all_eq_true] at z
        exact z
      refine ⟨_, .inl ⟨_, ha1, rfl⟩, _, .inl ⟨_, ha2, rfl⟩, ifN (by rw [l1, l2]; simp) ?_⟩
      wtm_at "k"
      refine ⟨_, .inl ⟨_, ha2, rfl⟩, by omega, by omega, fun D hD => ?_⟩
      refine w_lcR (fun i H' => Same H1 H' ∧ H' D = some (.lst (List.replicate i (V.bl true)))) ⟨sameNew hD, upd_same⟩ ?_ ?_
      · rintro i H' hi ⟨sm, hl⟩ N hN
        have hi' : i < ds.length := by rw [← l2]; simpa using hi
        obtain ⟨x, ex, dx⟩ := dpGet hb1 (List.getElem?_eq_getElem hi')
        obtain ⟨y, ey, dy⟩ := dpGet hb2 (List.getElem?_eq_getElem hi')
        wtm_at "e"
        refine w_ixA (.inl (Same.seq sm ha1)) (by rw [Int.zero_add]; exact atI_nat ex) ?_
        refine w_ixA (.inl (Same.seq sm ha2)) (by rw [Int.zero_add]; exact atI_nat ey) ?_
        refine ⟨x, y, ds[i], rfl, dpm dx sm, dpm dy sm, hd1.2 _ (List.getElem_mem hi'), fun H2 s2 => ?_⟩
        refine ⟨_, s2 _ _ hl, small1000 (by rw [List.length_replicate]; omega), hN _ ⟨fun b o e => ?_, ?_⟩⟩
        · rw [upd_ne (ne_of_none e hD)]; exact s2 _ _ (sm b o e)
        · rw [upd_same, List.replicate_succ']
      · rintro H' ⟨sm, hl⟩
        refine ⟨D, List.replicate ds.length true, rfl, SqL.of ?_, ?_⟩
        · rw [hl, l2]; simp
        · rw [show (List.replicate ds.length true).all id = true by simp]
          exact q _ (s1.trans sm)
    | tuple ds =>
      cases g1 with
      | tup ha1 hb1 =>
      cases g2 with
      | tup ha2 hb2 =>
      repeat (first | wtm_at "e" | wtm_at "k" | refine w_isi (.tup ha1 hb1) (by simp) ?_ | refine w_isi (.tup ha2 hb2) (by simp) ?_)
      have l1 := dpLen hb1
      have l2 := dpLen hb2
      have hd0 : 0 < n := by cases n with | zero => cases hd | succ n => exact Nat.succ_pos n
      obtain ⟨n, rfl⟩ : ∃ m, n = m + 1 := ⟨n - 1, by omega⟩
      have hd1 : ds.length ≤ 1000 ∧ ∀ d ∈ ds, lkd n d = true := by
        have z : (decide (ds.length ≤ 1000) && ds.all (lkd n)) = true := hd
        rw [Bool.and_eq_true, decide_eq_true_eq, List.all_eq_true] at z
        exact z
      refine ⟨_, .inr ⟨_, ha1, rfl⟩, _, .inr ⟨_, ha2, rfl⟩, ifN (by rw [l1, l2]; simp) ?_⟩
      wtm_at "k"
      refine ⟨_, .inr ⟨_, ha2, rfl⟩, by omega, by omega, fun D hD => ?_⟩
      refine w_lcR (fun i H' => Same H1 H' ∧ H' D = some (.lst (List.replicate i (V.bl true)))) ⟨sameNew hD, upd_same⟩ ?_ ?_
      · rintro i H' hi ⟨sm, hl⟩ N hN
        have hi' : i < ds.length := by rw [← l2]; simpa using hi
        obtain ⟨x, ex, dx⟩ := dpGet hb1 (List.getElem?_eq_getElem hi')
        obtain ⟨y, ey, dy⟩ := dpGet hb2 (List.getElem?_eq_getElem hi')
        wtm_at "e"
        refine w_ixA (.inr (seqT sm ha1)) (by rw [Int.zero_add]; exact atI_nat ex) ?_
        refine w_ixA (.inr (seqT sm ha2)) (by rw [Int.zero_add]; exact atI_nat ey) ?_
        refine ⟨x, y, ds[i], rfl, dpm dx sm, dpm dy sm, hd1.2 _ (List.getElem_mem hi'), fun H2 s2 => ?_⟩
        refine ⟨_, s2 _ _ hl, small1000 (by rw [List.length_replicate]; omega), hN _ ⟨fun b o e => ?_, ?_⟩⟩
        · rw [upd_ne (ne_of_none e hD)]; exact s2 _ _ (sm b o e)
        · rw [upd_same, List.replicate_succ']
      · rintro H' ⟨sm, hl⟩
        refine ⟨D, List.replicate ds.length true, rfl, SqL.of ?_, ?_⟩
        · rw [hl, l2]; simp
        · rw [show (List.replicate ds.length true).all id = true by simp]
          exact q _ (s1.trans sm)
theorem ok_l_like : ∀ n : Nat, FnOk P w K mg base CX0 (n + 1) T.a_l_like T.d_l_like ["_law_found", "_law_due"] (sp_l_like K n)
  | 0 => like_step T 0 fn_never
  | n + 1 => like_step T (n + 1) (ok_l_like n)
--nocal
theorem c_l_like (n : Nat) : Cal P w K mg base CX0 (n + 1) "_law_like" T.a_l_like T.d_l_like ["_law_found", "_law_due"] (sp_l_like K n) := ⟨ok_l_like T n, T.g_l_like, T.F_l_like.kp, T.F_l_like.binds fun _ _ _ _ _ _ us hl => match us, hl with | [_, _], _ => rfl⟩
--setlevel 5
theorem fr_pos {a b : Int} (h : 0 < b) : frD (a.fdiv (frG a b)) (b.fdiv (frG a b)) = frD (a / Int.gcd a b) (b / Int.gcd a b) := by
  have e : frG a b = (Int.gcd a b : Int) := by unfold frG; rw [if_neg (by omega)]
  rw [e, Int.fdiv_eq_ediv_of_nonneg _ (Int.natCast_nonneg _), Int.fdiv_eq_ediv_of_nonneg _ (Int.natCast_nonneg _)]
theorem fr_neg {a b : Int} (h : 0 < b) : frD ((-a).fdiv (frG (-a) (-b))) ((-b).fdiv (frG (-a) (-b))) = frD (a / Int.gcd a b) (b / Int.gcd a b) := by
  have e : frG (-a) (-b) = -(Int.gcd a b : Int) := by unfold frG; rw [if_pos (by omega), Int.neg_gcd, Int.gcd_neg]
  rw [e, Int.neg_fdiv_neg, Int.neg_fdiv_neg, Int.fdiv_eq_ediv_of_nonneg _ (Int.natCast_nonneg _), Int.fdiv_eq_ediv_of_nonneg _ (Int.natCast_nonneg _)]
theorem low_mul {k a b : Int} (h : 0 < k) : frD (k * a / Int.gcd (k * a) (k * b)) (k * b / Int.gcd (k * a) (k * b)) = frD (a / Int.gcd a b) (b / Int.gcd a b) := by
  have e : (Int.gcd (k * a) (k * b) : Int) = k * (Int.gcd a b : Int) := by rw [Int.gcd_mul_left, Int.natCast_mul, Int.natAbs_of_nonneg (by omega)]
  rw [e, Int.mul_ediv_mul_of_pos _ _ h, Int.mul_ediv_mul_of_pos _ _ h]
theorem low_one {a : Int} : frD (a.fdiv (frG a 1)) ((1 : Int).fdiv (frG a 1)) = frD a 1 := by
  rw [fr_pos (by decide)]
  have e : Int.gcd a 1 = 1 := Int.gcd_one
  rw [e]
  simp
/-- a pair in lowest terms: what low makes of (a, b) -/
structure Low (a b g x y : Int) : Prop where
  g0 : 0 < g
  ea : a = g * x
  eb : b = g * y
  y0 : 0 < y
  gc : Int.gcd x y = 1
  lx : x.natAbs ≤ a.natAbs
  ly : y ≤ b
  ed : frD (a / Int.gcd a b) (b / Int.gcd a b) = frD x y
theorem low_ex {a b : Int} (h : 0 < b) : ∃ g x y, Low a b g x y := by
  have g0 : 0 < Int.gcd a b := Int.gcd_pos_of_ne_zero_right a (by omega)
  have g1 : (0 : Int) < Int.gcd a b := by omega
  have ea : a = Int.gcd a b * (a / Int.gcd a b) := (Int.mul_ediv_cancel' (Int.gcd_dvd_left a b)).symm
  have eb : b = Int.gcd a b * (b / Int.gcd a b) := (Int.mul_ediv_cancel' (Int.gcd_dvd_right a b)).symm
  have y0 : 0 < b / Int.gcd a b := by
    exact Int.ediv_pos_of_pos_of_dvd h (by omega) (Int.gcd_dvd_right a b)
  refine ⟨Int.gcd a b, a / Int.gcd a b, b / Int.gcd a b, ⟨g1, ea, eb, y0, ?_, ?_, Int.ediv_le_self _ (by omega), rfl⟩⟩
  · exact Int.gcd_ediv_gcd_ediv_gcd g0
  · exact Int.natAbs_ediv_le_natAbs a _
/-- what the law reckons from the parts, and what the package makes of the lowest terms -/
theorem fr_both {a b c d g x y h z u m n : Int} (p : Low a b g x y) (q : Low c d h z u) (e : m = (g * h) * n) :
    frD (n.fdiv (frG n (y * u))) ((y * u).fdiv (frG n (y * u))) = frD (m / Int.gcd m (b * d)) (b * d / Int.gcd m (b * d)) := by
  have k : 0 < g * h := Int.mul_pos p.g0 q.g0
  have e2 : b * d = (g * h) * (y * u) := by
    rw [p.eb, q.eb, Int.mul_assoc, Int.mul_assoc]
    congr 1
    rw [← Int.mul_assoc, ← Int.mul_assoc, Int.mul_comm y h]
  rw [fr_pos (Int.mul_pos p.y0 q.y0), e, e2, low_mul k]
theorem lt_both {a b c d g x y h z u : Int} (p : Low a b g x y) (q : Low c d h z u) : decide (x * u < z * y) = decide (a * d < c * b) := by
  have k : 0 < g * h := Int.mul_pos p.g0 q.g0
  have e1 : a * d = (g * h) * (x * u) := by rw [p.ea, q.eb]; simp only [Int.mul_assoc, Int.mul_left_comm, Int.mul_comm]
  have e2 : c * b = (g * h) * (z * y) := by rw [p.eb, q.ea]; simp only [Int.mul_assoc, Int.mul_left_comm, Int.mul_comm]
  rw [e1, e2]
  simp only [decide_eq_decide]
  exact ⟨fun w => Int.mul_lt_mul_of_pos_left w k, fun w => Int.lt_of_mul_lt_mul_left w (Int.le_of_lt k)⟩
theorem al1 {a b c d g x y h z u : Int} (p : Low a b g x y) (q : Low c d h z u) : a * d = (g * h) * (x * u) ∧ c * b = (g * h) * (z * y) ∧ a * c = (g * h) * (x * z) := by
  refine ⟨?_, ?_, ?_⟩
  · rw [p.ea, q.eb]; simp only [Int.mul_assoc, Int.mul_left_comm, Int.mul_comm]
  · rw [p.eb, q.ea]; simp only [Int.mul_assoc, Int.mul_left_comm, Int.mul_comm]
  · rw [p.ea, q.ea]; simp only [Int.mul_assoc, Int.mul_left_comm, Int.mul_comm]
def oddL (x y : Int) : List PyData := [.none, .int 3, .str "1", .tuple [.int 1], .tuple [.int 1, .int 2, .int 3], .list [.int 1, .int 2], .tuple [.int 2, .int 4], .tuple [.int 1, .int 0], .tuple [.int 1, .int (-2)], .tuple [.int 0, .int 2], .tuple [.bool true, .int 1], .tuple [.int 1, .none], .tuple [.int (x * 2), .int (y * 2)], .tuple [.int x, .int (-y)], .tuple [.str "1", .int 1]]
theorem odd_ok {x y : Int} (y0 : 0 < y) (gc : Int.gcd x y = 1) {j : Nat} {D : PyData} (h : (oddL x y)[j]? = some D) : isFrB D = false ∧ tshort D := by
  have g2 : Int.gcd (x * 2) (y * 2) = 2 := by rw [Int.gcd_mul_right, gc]; rfl
  have hm := List.mem_of_getElem? h
  simp only [oddL, List.mem_cons, List.not_mem_nil, or_false] at hm
  rcases hm with rfl | rfl | rfl | rfl | rfl | rfl | rfl | rfl | rfl | rfl | rfl | rfl | rfl | rfl | rfl
  all_goals refine ⟨?_, by simp [tshort]⟩
  all_goals first | rfl | (simp [isFrB]; done) | (simp only [isFrB, g2]; simp; done) | (simp only [isFrB]; rw [decide_eq_false (by omega)]; rfl)
theorem ok_law : FnOk P w K mg base CX0 6 T.a_law T.d_law ["_law_script"] (spLaw K) := by
  refine T.F_law.ok sc_law (fun vs H Q E h => ?_) (fun cdv A outer s H vs Q E hr h => ?_)
  · obtain ⟨a, ns, rfl, _⟩ := h
    rfl
  · obtain ⟨a, ns, rfl, hs, hl, q⟩ := h
    refine ⟨_, (pss_cons (ps_set (i := 1) sc_law.nd rfl (Or.inl rfl) (pe_cal (c_l_bag T) (hr.mono (by decide)) (pa_cons (pv 0) pa_nil)))
      (pss_cons (ps_for PassesOwn.never rfl (pi_range1 (by rfl) T.z_range (pa_cons (pe_int) pa_nil)) (pg_name (i := 2) sc_law.nd rfl (Or.inl rfl)) (pss_cons (ps_asg (pe_tup (pa_cons (pe_cal (c_l_top T) (hr.mono (by decide)) (pa_cons (pv 1) pa_nil)) (pa_cons (pe_op op_add (pe_int) (pe_cal (c_l_draw T) (hr.mono (by decide)) (pa_cons (pv 1) (pa_cons (pe_int) pa_nil)))) (pa_cons (pe_cal (c_l_top T) (hr.mono (by decide)) (pa_cons (pv 1) pa_nil)) (pa_cons (pe_op op_add (pe_int) (pe_cal (c_l_draw T) (hr.mono (by decide)) (pa_cons (pv 1) (pa_cons (pe_int) pa_nil)))) pa_nil))))) (pg_tup (n := 4) rfl (pgs_cons (pg_name (i := 3) sc_law.nd rfl (Or.inl rfl)) (pgs_cons (pg_name (i := 4) sc_law.nd rfl (Or.inl rfl)) (pgs_cons (pg_name (i := 5) sc_law.nd rfl (Or.inl rfl)) (pgs_cons (pg_name (i := 6) sc_law.nd rfl (Or.inl rfl)) pgs_nil))))))
      (pss_cons (ps_par (i := 7) (j := 8) (by rfl) sc_law.nd rfl rfl (by decide) rfl rfl (pa_cons (pe_cal (c_l_low T) (hr.mono (by decide)) (pa_cons (pv 3) (pa_cons (pv 4) pa_nil))) (pa_cons (pe_cal (c_l_low T) (hr.mono (by decide)) (pa_cons (pv 5) (pa_cons (pv 6) pa_nil))) pa_nil)) (by rfl))
      (pss_cons (ps_set (i := 9) sc_law.nd rfl (Or.inl rfl) (pe_cal (c_l_any T) (hr.mono (by decide)) (pa_cons (pv 1) (pa_cons (pe_lst (pa_cons (pe_int) (pa_cons (pe_un un_neg (pe_int)) pa_nil))) pa_nil))))
      (pss_cons (ps_set (i := 10) sc_law.nd rfl (Or.inl rfl) (pe_lst (pa_cons (pe_calD (cd_fraction_2 T) (hr.mono (by decide)) (pa_cons (pe_op op_mulW (pv 3) (pv 9)) (pa_cons (pe_op op_mulW (pv 4) (pv 9)) pa_nil))) (pa_cons (pe_calK (cd_fraction_1_bottom T) (hr.mono (by decide)) (pa_cons (pv 5) pa_nil) (pk_cons (pv 6) pk_nil)) (pa_cons (pe_calD (cd_fraction_1 T) (hr.mono (by decide)) (pa_cons (pv 3) pa_nil)) pa_nil)))))
      (pss_cons (ps_if (pt_not (pt_val (pe_cal (c_l_like T 4) (hr.mono (by decide)) (pa_cons (pv 10) (pa_cons (pe_lst (pa_cons (pv 7) (pa_cons (pv 8) (pa_cons (pe_tup (pa_cons (pv 3) (pa_cons (pe_int) pa_nil))) pa_nil)))) pa_nil))))) (pss_one (ps_ret (pe_bl))) pss_nil)
      (pss_cons (ps_set (i := 10) sc_law.nd rfl (Or.inl rfl) (pe_lst (pa_cons (pe_cal (c_plus T) (hr.mono (by decide)) (pa_cons (pv 7) (pa_cons (pv 8) pa_nil))) (pa_cons (pe_cal (c_minus T) (hr.mono (by decide)) (pa_cons (pv 7) (pa_cons (pv 8) pa_nil))) (pa_cons (pe_cal (c_times T) (hr.mono (by decide)) (pa_cons (pv 7) (pa_cons (pv 8) pa_nil))) (pa_cons (pe_cal (c_is_less T) (hr.mono (by decide)) (pa_cons (pv 7) (pa_cons (pv 8) pa_nil))) (pa_cons (pe_cal (c_is_less T) (hr.mono (by decide)) (pa_cons (pv 8) (pa_cons (pv 7) pa_nil))) pa_nil)))))))
      (pss_cons (ps_set (i := 11) sc_law.nd rfl (Or.inl rfl) (pe_lst (pa_cons (pe_cal (c_l_low T) (hr.mono (by decide)) (pa_cons (pe_op op_add (pe_op op_mulW (pv 3) (pv 6)) (pe_op op_mulW (pv 5) (pv 4))) (pa_cons (pe_op op_mulW (pv 4) (pv 6)) pa_nil))) (pa_cons (pe_cal (c_l_low T) (hr.mono (by decide)) (pa_cons (pe_op op_sub (pe_op op_mulW (pv 3) (pv 6)) (pe_op op_mulW (pv 5) (pv 4))) (pa_cons (pe_op op_mulW (pv 4) (pv 6)) pa_nil))) (pa_cons (pe_cal (c_l_low T) (hr.mono (by decide)) (pa_cons (pe_op op_mulW (pv 3) (pv 5)) (pa_cons (pe_op op_mulW (pv 4) (pv 6)) pa_nil))) (pa_cons (pe_cmpR op_lt (pe_op op_mulW (pv 3) (pv 6)) (pe_op op_mulW (pv 5) (pv 4)) (nomark _)) pa_nil))))))
      (pss_cons (ps_if (pt_not (pt_val (pe_cal (c_l_like T 4) (hr.mono (by decide)) (pa_cons (pv 10) (pa_cons (pe_op op_cat (pv 11) (pe_lst (pa_cons (pe_cmpR op_lt (pe_op op_mulW (pv 5) (pv 4)) (pe_op op_mulW (pv 3) (pv 6)) (nomark _)) pa_nil))) pa_nil))))) (pss_one (ps_ret (pe_bl))) pss_nil)
      (Evl.pss_cut (ps_set (i := 12) sc_law.nd rfl (Or.inl rfl) (pe_ifExp (pt_cmpR op_eq (pe_ix (r := rIxT K) ix_tup (pv 7) (pe_int) (fun _ _ => rfl)) (pe_int) (nomark _)) (pe_callTy call_str_int (by rfl) T.z_str (by decide +kernel) (pa_cons (pe_ix (r := rIxT K) ix_tup (pv 7) (pe_int) (fun _ _ => rfl)) pa_nil)) (pe_op op_add_str (pe_op op_add_str (pe_callTy call_str_int (by rfl) T.z_str (by decide +kernel) (pa_cons (pe_ix (r := rIxT K) ix_tup (pv 7) (pe_int) (fun _ _ => rfl)) pa_nil)) (pe_str)) (pe_callTy call_str_int (by rfl) T.z_str (by decide +kernel) (pa_cons (pe_ix (r := rIxT K) ix_tup (pv 7) (pe_int) (fun _ _ => rfl)) pa_nil)))))
      (pss_cons (ps_if (pt_not (pt_val (pe_cal (c_l_like T 4) (hr.mono (by decide)) (pa_cons (pe_lst (pa_cons (pe_cal (c_fraction_text T) (hr.mono (by decide)) (pa_cons (pv 7) pa_nil)) (pa_cons (pe_cal (c_is_fraction T) (hr.mono (by decide)) (pa_cons (pv 7) pa_nil)) pa_nil))) (pa_cons (pe_lst (pa_cons (pv 12) (pa_cons (pe_bl) pa_nil))) pa_nil))))) (pss_one (ps_ret (pe_bl))) pss_nil)
      (pss_cons (ps_set (i := 13) sc_law.nd rfl (Or.inl rfl) (pe_cal (c_l_any T) (hr.mono (by decide)) (pa_cons (pv 1) (pa_cons (pe_lst (pa_cons (pe_non) (pa_cons (pe_int) (pa_cons (pe_str) (pa_cons (pe_tup (pa_cons (pe_int) pa_nil)) (pa_cons (pe_tup (pa_cons (pe_int) (pa_cons (pe_int) (pa_cons (pe_int) pa_nil)))) (pa_cons (pe_lst (pa_cons (pe_int) (pa_cons (pe_int) pa_nil))) (pa_cons (pe_tup (pa_cons (pe_int) (pa_cons (pe_int) pa_nil))) (pa_cons (pe_tup (pa_cons (pe_int) (pa_cons (pe_int) pa_nil))) (pa_cons (pe_tup (pa_cons (pe_int) (pa_cons (pe_un un_neg (pe_int)) pa_nil))) (pa_cons (pe_tup (pa_cons (pe_int) (pa_cons (pe_int) pa_nil))) (pa_cons (pe_tup (pa_cons (pe_bl) (pa_cons (pe_int) pa_nil))) (pa_cons (pe_tup (pa_cons (pe_int) (pa_cons (pe_non) pa_nil))) (pa_cons (pe_tup (pa_cons (pe_op op_mul (pe_ix (r := rIxT K) ix_tup (pv 7) (pe_int) (fun _ _ => rfl)) (pe_int)) (pa_cons (pe_op op_mul (pe_ix (r := rIxT K) ix_tup (pv 7) (pe_int) (fun _ _ => rfl)) (pe_int)) pa_nil))) (pa_cons (pe_tup (pa_cons (pe_ix (r := rIxT K) ix_tup (pv 7) (pe_int) (fun _ _ => rfl)) (pa_cons (pe_un un_neg (pe_ix (r := rIxT K) ix_tup (pv 7) (pe_int) (fun _ _ => rfl))) pa_nil))) (pa_cons (pe_tup (pa_cons (pe_str) (pa_cons (pe_int) pa_nil))) pa_nil)))))))))))))))) pa_nil))))
      (pss_one (ps_if (pt_cmpR op_notBl (pe_cal (c_is_fraction T) (hr.mono (by decide)) (pa_cons (pv 13) pa_nil)) (pe_bl) (nomark _)) (pss_one (ps_ret (pe_bl))) pss_nil))))))))))))))
      (pss_one (ps_ret ((pe_and (pe_cmpR (r := rEqD K) (op_eqD hr.units) (pe_lst (pa_cons (pe_gref (by rfl) T.g_ZERO) (pa_cons (pe_gref (by rfl) T.g_ONE) pa_nil))) (pe_lst (pa_cons (pe_tup (pa_cons (pe_int) (pa_cons (pe_int) pa_nil))) (pa_cons (pe_tup (pa_cons (pe_int) (pa_cons (pe_int) pa_nil))) pa_nil))) (nomark _)) (pe_one (pe_cmpR op_isBl (pe_cal (c_is_less T) (hr.mono (by decide)) (pa_cons (pe_tup (pa_cons (pe_int) (pa_cons (pe_int) pa_nil))) (pa_cons (pe_tup (pa_cons (pe_int) (pa_cons (pe_int) pa_nil))) pa_nil))) (pe_bl) (nomark _))))))))), ?_⟩
    wtm_at "E"
    refine ⟨a, ns, rfl, hs, hl, fun b I0 H0 s0 w0 nb => ?_⟩
    wtm_at "k"
    refine ⟨by decide, by decide, w_forR (fun i σ H' => ∃ I, W b I H' ∧ ∃ v2 v3 v4 v5 v6 v7 v8 v9 v10 v11 v12 v13 : Option V, σ = [some (.ref a), some (.ref b), v2, v3, v4, v5, v6, v7, v8, v9, v10, v11, v12, v13]) ⟨I0, w0, _, _, _, _, _, _, _, _, _, _, _, _, rfl⟩ ?_ ?_⟩
    · rintro i σ H' hi ⟨I, wb, u2, u3, u4, u5, u6, u7, u8, u9, u10, u11, u12, u13, rfl⟩ N hN
      wtm_at "E"
      refine ⟨b, _, rfl, wb, fun x1 I1 H1 hx1 w1 m1 => ?_⟩
      refine w_drawN (m := 40) w1 (by decide) (by decide) fun n2 H2 hn2 w2 _ => ?_
      wtm_at "E"
      refine ⟨b, _, rfl, w2, fun x3 I3 H3 hx3 w3 m3 => ?_⟩
      refine w_drawN (m := 40) w3 (by decide) (by decide) fun n4 H4 hn4 w4 _ => ?_
      wtm_at "E"
      refine w_tupR (by simp) fun p5 hp5 => ?_
      wtm_at "E"
      have w5 := w4.new (o := .tup [.int x1, .int (1 + n2), .int x3, .int (1 + n4)]) hp5
      refine ⟨_, SqT.of upd_same, rfl, ?_⟩
      wtm_at "E"
      obtain ⟨z2, ez2, hz2⟩ : ∃ z : Int, 1 + (n2 : Int) = z ∧ 1 ≤ z ∧ z ≤ 40 := ⟨_, rfl, by omega, by omega⟩
      obtain ⟨z4, ez4, hz4⟩ : ∃ z : Int, 1 + (n4 : Int) = z ∧ 1 ≤ z ∧ z ≤ 40 := ⟨_, rfl, by omega, by omega⟩
      rw [ez2, ez4] at w5 ⊢
      clear ez2 ez4
      generalize upd H4 p5 (.tup [.int x1, .int z2, .int x3, .int z4]) = H5 at w5 ⊢
      generalize upd I3 p5 (.tup [.int x1, .int z2, .int x3, .int z4]) = I5 at w5
      wtm_at "k"
      obtain ⟨g, x, y, L1⟩ := low_ex (a := x1) (b := z2) (by omega)
      obtain ⟨h, z, u, L2⟩ := low_ex (a := x3) (b := z4) (by omega)
      refine w_low (K := K) w5 (by omega) (lg9 (by omega)) fun p6 I6 H6 w6 m6 d6 => ?_
      refine w_low (K := K) w6 (by omega) (lg9 (by omega)) fun p7 I7 H7 w7 m7 d7 => ?_
      rw [L1.ed] at d6
      rw [L2.ed] at d7
      wtm_at "k"
      refine w_mkL (K := K) w7 (by simp) (.cons (.int 1) (.cons (.int (-1)) .nil)) fun v8 I8 H8 w8 m8 d8 => ?_
      refine w_anyD w8 (.inl d8) (by decide) (by decide) fun j x9 dx9 H9 e9 d9 w9 _ => ?_
      obtain ⟨t, rfl, ht⟩ : ∃ t : Int, x9 = .int t ∧ (t = 1 ∨ t = -1) := by
        match j, e9 with
        | 0, e9 => cases e9; exact ⟨_, dpIntI d9, .inl rfl⟩
        | 1, e9 => cases e9; exact ⟨_, dpIntI d9, .inr rfl⟩
        | j + 2, e9 => cases e9
      wtm_at "k"
      have m1 : CMulW x1 t := wide_mul (a := 70) (b := 70) (by omega) (by omega) (by decide) (by decide) (by decide)
      have m2 : CMulW z2 t := wide_mul (a := 70) (b := 70) (by omega) (by omega) (by decide) (by decide) (by decide)
      refine ⟨m1, m2, ?_⟩
      have ft : frD ((x1 * t).fdiv (frG (x1 * t) (z2 * t))) ((z2 * t).fdiv (frG (x1 * t) (z2 * t))) = frD x y := by
        rw [← L1.ed]
        rcases ht with rfl | rfl
        · rw [Int.mul_one, Int.mul_one, fr_pos (by omega)]
        · rw [Int.mul_neg_one, Int.mul_neg_one, fr_neg (by omega)]
      refine w_fraction (K := K) w9 (by rcases ht with rfl | rfl <;> omega) (by rcases ht with rfl | rfl <;> omega) fun p10 I10 H10 w10 m10 d10 => ?_
      rw [ft] at d10
      refine w_fraction (K := K) w10 (by omega) (by omega) fun p11 I11 H11 w11 m11 d11 => ?_
      rw [fr_pos (by omega), L2.ed] at d11
      refine w_fraction (K := K) w11 (by decide) (by decide) fun p12 I12 H12 w12 m12 d12 => ?_
      rw [low_one] at d12
      refine w_mkL (K := K) w12 (by simp) (.cons (d := frD x y) (by wtm_at "dp") (.cons (d := frD z u) (by wtm_at "dp") (.cons d12 .nil))) fun v13 I13 H13 w13 m13 d13 => ?_
      wtm_at "k"
      refine w_mkT (K := K) w13 (by simp) dpInts fun v14 I14 H14 w14 m14 d14 => ?_
      refine w_mkL (K := K) w14 (by simp) (.cons (d := frD x y) (by wtm_at "dp") (.cons (d := frD z u) (by wtm_at "dp") (.cons d14 .nil))) fun v15 I15 H15 w15 m15 d15 => ?_
      refine w_like w15 (.list [frD x y, frD z u, frD x1 1]) (by wtm_at "dp") d15 (by rfl) fun H16 w16 _ => ?_
      wtm_at "k"
      have e1 : FrOk x y z u := ⟨wide_mul (a := 70) (b := 70) (by have := L1.lx; omega) (by have := L2.ly; have := L2.y0; omega) (by decide) (by decide) (by decide), wide_mul (a := 70) (b := 70) (by have := L2.lx; omega) (by have := L1.ly; have := L1.y0; omega) (by decide) (by decide) (by decide),
        wide_mul (a := 70) (b := 70) (by have := L1.ly; have := L1.y0; omega) (by have := L2.ly; have := L2.y0; omega) (by decide) (by decide) (by decide), wide_mul (a := 70) (b := 70) (by have := L1.lx; omega) (by have := L2.lx; omega) (by decide) (by decide) (by decide),
        by have := Int.mul_pos L1.y0 L2.y0; omega, by
          have h1 := Int.mul_pos L1.y0 L2.y0
          have h2 : y * u ≤ 40 * 40 := Int.mul_le_mul (by have := L1.ly; omega) (by have := L2.ly; omega) (by have := L2.y0; omega) (by decide)
          omega⟩
      refine w_plus (K := K) w16 (by wtm_at "dp") (by wtm_at "dp") e1 fun p17 I17 H17 w17 m17 d17 => ?_
      refine w_minus (K := K) w17 (by wtm_at "dp") (by wtm_at "dp") e1 fun p18 I18 H18 w18 m18 d18 => ?_
      refine w_times (K := K) w18 (by wtm_at "dp") (by wtm_at "dp") e1 fun p19 I19 H19 w19 m19 d19 => ?_
      refine ⟨_, _, x, y, z, u, rfl, dpm (by wtm_at "dp") w19.ok, dpm (by wtm_at "dp") w19.ok, e1.m1, e1.m2, ?_⟩
      refine ⟨_, _, z, u, x, y, rfl, dpm (by wtm_at "dp") w19.ok, dpm (by wtm_at "dp") w19.ok, e1.m2, e1.m1, ?_⟩
      have k0 : (0 : Int) < z2 * z4 := Int.mul_pos (by omega) (by omega)
      have k1 : z2 * z4 ≤ 40 * 40 := Int.mul_le_mul (by omega) (by omega) (by omega) (by decide)
      obtain ⟨al, am, an⟩ := al1 L1 L2
      have q1 := fr_both L1 L2 (m := x1 * z4 + x3 * z2) (n := x * u + z * y) (by rw [al, am, Int.mul_add])
      have q2 := fr_both L1 L2 (m := x1 * z4 - x3 * z2) (n := x * u - z * y) (by rw [al, am, Int.mul_sub])
      have q3 := fr_both L1 L2 (m := x1 * x3) (n := x * z) an
      rw [q1] at d17
      rw [q2] at d18
      rw [q3] at d19
      have cm1 : CMulW x1 z4 := wide_mul (a := 70) (b := 70) (by omega) (by omega) (by decide) (by decide) (by decide)
      have cm2 : CMulW x3 z2 := wide_mul (a := 70) (b := 70) (by omega) (by omega) (by decide) (by decide) (by decide)
      have cm3 : CMulW z2 z4 := wide_mul (a := 70) (b := 70) (by omega) (by omega) (by decide) (by decide) (by decide)
      have cm4 : CMulW x1 x3 := wide_mul (a := 70) (b := 70) (by omega) (by omega) (by decide) (by decide) (by decide)
      rw [lt_both L1 L2, lt_both L2 L1]
      generalize e17 : frD ((x1 * z4 + x3 * z2) / Int.gcd (x1 * z4 + x3 * z2) (z2 * z4)) (z2 * z4 / Int.gcd (x1 * z4 + x3 * z2) (z2 * z4)) = D17 at d17
      generalize e18 : frD ((x1 * z4 - x3 * z2) / Int.gcd (x1 * z4 - x3 * z2) (z2 * z4)) (z2 * z4 / Int.gcd (x1 * z4 - x3 * z2) (z2 * z4)) = D18 at d18
      generalize e19 : frD (x1 * x3 / Int.gcd (x1 * x3) (z2 * z4)) (z2 * z4 / Int.gcd (x1 * x3) (z2 * z4)) = D19 at d19
      refine w_mkL (K := K) w19 (by simp) (.cons (d := D17) (by wtm_at "dp") (.cons (d := D18) (by wtm_at "dp") (.cons d19 (.cons (.bl _) (.cons (.bl _) .nil))))) fun v20 I20 H20 w20 m20 d20 => ?_
      wtm_at "k"
      refine ⟨cm1, cm2, cm3, ?_⟩
      refine w_low (K := K) w20 k0 (lg9 (by omega)) fun p21 I21 H21 w21 m21 d21 => ?_
      wtm_at "E"
      refine ⟨cm1, cm2, cm3, ?_⟩
      refine w_low (K := K) w21 k0 (lg9 (by omega)) fun p22 I22 H22 w22 m22 d22 => ?_
      wtm_at "E"
      refine ⟨cm4, cm3, ?_⟩
      refine w_low (K := K) w22 k0 (lg9 (by omega)) fun p23 I23 H23 w23 m23 d23 => ?_
      rw [e17] at d21
      rw [e18] at d22
      rw [e19] at d23
      wtm_at "E"
      refine ⟨cm1, cm2, ?_⟩
      refine w_mkL2 (K := K) w23 (by simp) (.cons (d := D17) (by wtm_at "dp") (.cons (d := D18) (by wtm_at "dp") (.cons d23 (.cons (.bl _) .nil)))) fun v24 I24 H24 w24 m24 r24 d24 => ?_
      wtm_at "k"
      refine ⟨cm2, cm1, ?_⟩
      refine w_mkL2 (K := K) w24 (by simp) (.cons (.bl _) .nil) fun v25 I25 H25 w25 m25 r25 d25 => ?_
      refine w_catD (K := K) w25 (m25 _ _ r24) r25 (by simp) (.cons (d := D17) (by wtm_at "dp") (.cons (d := D18) (by wtm_at "dp") (.cons (d := D19) (by wtm_at "dp") (.cons (.bl _) .nil)))) (.cons (.bl _) .nil) fun v26 I26 H26 w26 m26 r26 d26 => ?_
      refine w_like w26 (.list [D17, D18, D19, .bool _, .bool _]) (by wtm_at "dp") d26 (by rw [← e17, ← e18, ← e19]; rfl) fun H27 w27 _ => ?_
      wtm_at "E"
      refine w_kt ?_
      obtain ⟨r6, rfl, t6⟩ := frD_inv (show Dp K I26 p6 (frD x y) by wtm_at "dp")
      have lgx : x.natAbs.log2 < 1920 := Nat.lt_trans (lg_lt (k := 100) (by have := L1.lx; omega) (by decide)) (by decide)
      have lgy : y.natAbs.log2 < 1920 := Nat.lt_trans (lg_lt (k := 100) (by have := L1.ly; have := L1.y0; omega) (by decide)) (by decide)
      refine w_cut (fun σ' H' => σ' = [some (.ref a), some (.ref b), some (.int (0 + (i : Nat))), some (.int x1), some (.int z2), some (.int x3), some (.int z4), some (.ref r6), some p7, some (.int t), some v20, some (.ref v24), some (.str (frTxt x y)), u13] ∧ W b I26 H') (fun M hM => ?_) ?_
      · wtm_at "E"
        refine ⟨_, seqT w27.ok t6, _, rfl, ?_⟩
        wtm_at "E"
        refine ite2 (fun hy => ?_) (fun hy => ?_)
        · refine ⟨_, seqT w27.ok t6, _, rfl, ?_⟩
          wtm_at "E"
          refine ⟨lgx, hM _ _ ⟨?_, w27⟩⟩
          unfold frTxt
          rw [if_pos hy]
        · refine ⟨_, seqT w27.ok t6, _, rfl, ?_⟩
          wtm_at "E"
          have l5 : sizeLine = 16777216 := sizeLine_eq
          have l1 := intLen lgx
          have l2 := intLen lgy
          have l3 : (Str.ofString "/").length = 1 := by decide +kernel
          refine ⟨lgx, by omega, _, seqT w27.ok t6, _, rfl, _, rfl, lgy, by rw [strLenApp]; omega, hM _ _ ⟨?_, w27⟩⟩
          unfold frTxt
          rw [if_neg hy, strEmptyApp]
      · rintro σ' H28 ⟨rfl, w28⟩
        wtm_at "E"
        have d28 : Dp K I26 (.ref r6) (frD x y) := by wtm_at "dp"
        refine ⟨_, x, y, rfl, dpm d28 w28.ok, lgx, lgy, ?_⟩
        refine ⟨_, _, rfl, dpm d28 w28.ok, by simp [frD, tshort], fun H29 s29 => ?_⟩
        have w29 := w28.same s29
        have fy : isFrB (frD x y) = true := by
          show (decide (0 < y) && decide (Int.gcd x y = 1)) = true
          rw [decide_eq_true L1.y0, decide_eq_true L1.gc]; rfl
        rw [fy]
        wtm_at "E"
        refine w_mkL (K := K) w29 (by simp) (.cons (.str (frTxt x y)) (.cons (.bl true) .nil)) fun v30 I30 H30 w30 m30 d30 => ?_
        refine w_mkL (K := K) w30 (by simp) (.cons (.str (frTxt x y)) (.cons (.bl true) .nil)) fun v31 I31 H31 w31 m31 d31 => ?_
        refine w_like w31 (.list [.str (frTxt x y), .bool true]) (by wtm_at "dp") d31 (by simp [lkd]) fun H32 w32 _ => ?_
        wtm_at "E"
        refine w_kt ?_
        wtm_at "s"
        refine w_mkT (K := K) w32 (by simp) (.cons (.int 1) .nil) fun v33 I33 H33 w33 m33 d33 => ?_
        wtm_at "s"
        refine w_mkT (K := K) w33 (by simp) (.cons (.int 1) (.cons (.int 2) (.cons (.int 3) .nil))) fun v34 I34 H34 w34 m34 d34 => ?_
        wtm_at "s"
        refine w_mkL (K := K) w34 (by simp) (.cons (.int 1) (.cons (.int 2) .nil)) fun v35 I35 H35 w35 m35 d35 => ?_
        wtm_at "s"
        refine w_mkT (K := K) w35 (by simp) (.cons (.int 2) (.cons (.int 4) .nil)) fun v36 I36 H36 w36 m36 d36 => ?_
        wtm_at "s"
        refine w_mkT (K := K) w36 (by simp) (.cons (.int 1) (.cons (.int 0) .nil)) fun v37 I37 H37 w37 m37 d37 => ?_
        wtm_at "s"
        refine w_mkT (K := K) w37 (by simp) (.cons (.int 1) (.cons (.int (-2)) .nil)) fun v38 I38 H38 w38 m38 d38 => ?_
        wtm_at "s"
        refine w_mkT (K := K) w38 (by simp) (.cons (.int 0) (.cons (.int 2) .nil)) fun v39 I39 H39 w39 m39 d39 => ?_
        wtm_at "s"
        refine w_mkT (K := K) w39 (by simp) (.cons (.bl true) (.cons (.int 1) .nil)) fun v40 I40 H40 w40 m40 d40 => ?_
        wtm_at "s"
        refine w_mkT (K := K) w40 (by simp) (.cons (.int 1) (.cons .non .nil)) fun v41 I41 H41 w41 m41 d41 => ?_
        wtm_at "s"
        have t41 : SqT K H41 r6 [.int x, .int y] := seqT w41.ok (seqT m41 (seqT m40 (seqT m39 (seqT m38 (seqT m37 (seqT m36 (seqT m35 (seqT m34 (seqT m33 (seqT m31 (seqT m30 t6)))))))))))
        refine w_ixT t41 rfl ?_
        wtm_at "s"
        refine w_I (cmulc (by decide) (by decide)) ?_
        wtm_at "s"
        refine w_ixT t41 rfl ?_
        wtm_at "s"
        refine w_I (cmulc (by decide) (by decide)) ?_
        wtm_at "s"
        refine w_mkT (K := K) w41 (by simp) (.cons (.int (x * 2)) (.cons (.int (y * 2)) .nil)) fun v42 I42 H42 w42 m42 d42 => ?_
        wtm_at "s"
        have t42 : SqT K H42 r6 [.int x, .int y] := seqT w42.ok (seqT m42 (seqT m41 (seqT m40 (seqT m39 (seqT m38 (seqT m37 (seqT m36 (seqT m35 (seqT m34 (seqT m33 (seqT m31 (seqT m30 t6))))))))))))
        refine w_ixT t42 rfl ?_
        wtm_at "s"
        refine w_ixT t42 rfl ?_
        wtm_at "s"
        refine w_mkT (K := K) w42 (by simp) (.cons (.int x) (.cons (.int (-y)) .nil)) fun v43 I43 H43 w43 m43 d43 => ?_
        wtm_at "s"
        refine w_mkT (K := K) w43 (by simp) (.cons (.str "1") (.cons (.int 1) .nil)) fun v44 I44 H44 w44 m44 d44 => ?_
        wtm_at "s"
        have dl : DpAll K I44 [.non, .int 3, .str "1", v33, v34, v35, v36, v37, v38, v39, v40, v41, v42, v43, v44] (oddL x y) := by
          refine .cons .non (.cons (.int 3) (.cons (.str "1") (.cons ?_ (.cons ?_ (.cons ?_ (.cons ?_ (.cons ?_ (.cons ?_ (.cons ?_ (.cons ?_ (.cons ?_ (.cons ?_ (.cons ?_ (.cons ?_ .nil))))))))))))))
          all_goals wtm_at "dp"
        refine w_mkL (K := K) w44 (by simp) dl fun v45 I45 H45 w45 m45 d45 => ?_
        refine w_anyD (E := E0) w45 (.inl d45) (Nat.zero_lt_succ _) (by simp [oddL]) fun j x46 D46 H46 e46 d46 w46 _ => ?_
        have hj := odd_ok L1.y0 L1.gc e46
        wtm_at "k"
        refine ⟨_, _, rfl, dpm d46 w46.ok, hj.2, fun H47 s47 => ?_⟩
        rw [hj.1]
        wtm_at "E"
        exact hN _ _ ⟨I45, w46.same s47, _, _, _, _, _, _, _, _, _, _, _, _, rfl⟩
    · rintro σ H' ⟨I, wb, v2, v3, v4, v5, v6, v7, v8, v9, v10, v11, v12, v13, rfl⟩
      wtm_at "k"
      refine w_mkL (K := K) wb (by simp) (.cons (d := frD 0 1) (.tup (T.k_ZERO.at _) dpInts) (.cons (d := frD 1 1) (.tup (T.k_ONE.at _) dpInts) .nil)) fun v1 I1 H1 w1 m1 d1 => ?_
      refine w_mkT (K := K) w1 (by simp) (.cons (.int 0) (.cons (.int 1) .nil)) fun t2 I2 H2 w2 m2 d2 => ?_
      refine w_mkT (K := K) w2 (by simp) (.cons (.int 1) (.cons (.int 1) .nil)) fun t3 I3 H3 w3 m3 d3 => ?_
      refine w_mkL (K := K) w3 (by simp) (.cons (d := frD 0 1) (by wtm_at "dp") (.cons (d := frD 1 1) (by wtm_at "dp") .nil)) fun v4 I4 H4 w4 m4 d4 => ?_
      refine w_eqD (dpm (d := .list [frD 0 1, frD 1 1]) (by wtm_at "dp") w4.ok) (dpm d4 w4.ok) (by decide) (by decide) ?_
      wtm_at "E"
      refine ifP (by decide) ?_
      refine w_mkT (K := K) w4 (by simp) (.cons (.int 1) (.cons (.int 2) .nil)) fun t5 I5 H5 w5 m5 d5 => ?_
      refine w_mkT (K := K) w5 (by simp) (.cons (.int 1) (.cons (.int 2) .nil)) fun t6 I6 H6 w6 m6 d6 => ?_
      refine ⟨_, _, 1, 2, 1, 2, rfl, dpm (dpm d5 m6) w6.ok, dpm d6 w6.ok, wide_mul (a := 70) (b := 70) (by decide) (by decide) (by decide) (by decide) (by decide), wide_mul (a := 70) (b := 70) (by decide) (by decide) (by decide) (by decide) (by decide), ?_⟩
      wtm_at "E"
      exact q _
end
end G218
namespace G218
open PySem L2 G
def mkTx {w : World} {K : PySem.W.Frag} {h : Heap} {mg : Str → Option Value} (X : K.In h) (G : h.Ns mainGlobals mg)
    {f1 : Addr} {od1 an1 : Option Addr} {sl1 : Array (Option Value)} {oc1 kV1 dc1 pm1 cd1 ct1 : Value}
    {f2 : Addr} {od2 an2 : Option Addr} {sl2 : Array (Option Value)} {oc2 kV2 dc2 pm2 cd2 ct2 : Value}
    {f3 : Addr} {od3 an3 : Option Addr} {sl3 : Array (Option Value)} {oc3 kV3 dc3 pm3 cd3 ct3 : Value}
    {tD3 : Addr} {ddD3 : Option Addr} {nD3 : Nat} {slD3 : Array (Option Value)} {tk3_0 : Tok}
    {f4 : Addr} {od4 an4 : Option Addr} {sl4 : Array (Option Value)} {oc4 kV4 dc4 pm4 cd4 ct4 : Value}
    {f5 : Addr} {od5 an5 : Option Addr} {sl5 : Array (Option Value)} {oc5 kV5 dc5 pm5 cd5 ct5 : Value}
    {f6 : Addr} {od6 an6 : Option Addr} {sl6 : Array (Option Value)} {oc6 kV6 dc6 pm6 cd6 ct6 : Value}
    {f7 : Addr} {od7 an7 : Option Addr} {sl7 : Array (Option Value)} {oc7 kV7 dc7 pm7 cd7 ct7 : Value}
    {f8 : Addr} {od8 an8 : Option Addr} {sl8 : Array (Option Value)} {oc8 kV8 dc8 pm8 cd8 ct8 : Value}
    {f9 : Addr} {od9 an9 : Option Addr} {sl9 : Array (Option Value)} {oc9 kV9 dc9 pm9 cd9 ct9 : Value}
    {f10 : Addr} {od10 an10 : Option Addr} {sl10 : Array (Option Value)} {oc10 kV10 dc10 pm10 cd10 ct10 : Value}
    {f11 : Addr} {od11 an11 : Option Addr} {sl11 : Array (Option Value)} {oc11 kV11 dc11 pm11 cd11 ct11 : Value}
    {f12 : Addr} {od12 an12 : Option Addr} {sl12 : Array (Option Value)} {oc12 kV12 dc12 pm12 cd12 ct12 : Value}
    {f13 : Addr} {od13 an13 : Option Addr} {sl13 : Array (Option Value)} {oc13 kV13 dc13 pm13 cd13 ct13 : Value}
    {f14 : Addr} {od14 an14 : Option Addr} {sl14 : Array (Option Value)} {oc14 kV14 dc14 pm14 cd14 ct14 : Value}
    {f15 : Addr} {od15 an15 : Option Addr} {sl15 : Array (Option Value)} {oc15 kV15 dc15 pm15 cd15 ct15 : Value}
    {f16 : Addr} {od16 an16 : Option Addr} {sl16 : Array (Option Value)} {oc16 kV16 dc16 pm16 cd16 ct16 : Value}
    {f17 : Addr} {od17 an17 : Option Addr} {sl17 : Array (Option Value)} {oc17 kV17 dc17 pm17 cd17 ct17 : Value}
    {q1 : Addr} {qd1 : Option Addr} {qn1 : Nat} {qs1 : Array (Option Value)} {qt1_0 : Tok} {qt1_1 : Tok}
    {q2 : Addr} {qd2 : Option Addr} {qn2 : Nat} {qs2 : Array (Option Value)} {qt2_0 : Tok} {qt2_1 : Tok}
    (a1 : PySem.W.nsIn K mainGlobals "is_integer" = some (some (.ref f1)))
    (l1 : K.lookup f1 = some ⟨oc1, od1, .func (PySem.W.fnOf "is_integer" "is_integer" (defArgs s_is_integer) (defBody s_is_integer) (defScope s_is_integer) .none kV1 dc1 pm1 an1 cd1 ct1), sl1⟩)
    (c1 : PySem.W.codeIn K cd1 "is_integer" = true)
    (k1 : PySem.W.keepIn K (.ref f1) = true)
    (a2 : PySem.W.nsIn K mainGlobals "common_divisor" = some (some (.ref f2)))
    (l2 : K.lookup f2 = some ⟨oc2, od2, .func (PySem.W.fnOf "common_divisor" "common_divisor" (defArgs s_common_divisor) (defBody s_common_divisor) (defScope s_common_divisor) .none kV2 dc2 pm2 an2 cd2 ct2), sl2⟩)
    (c2 : PySem.W.codeIn K cd2 "common_divisor" = true)
    (k2 : PySem.W.keepIn K (.ref f2) = true)
    (a3 : PySem.W.nsIn K mainGlobals "fraction" = some (some (.ref f3)))
    (l3 : K.lookup f3 = some ⟨oc3, od3, .func (PySem.W.fnOf "fraction" "fraction" (defArgs s_fraction) (defBody s_fraction) (defScope s_fraction) (.ref tD3) kV3 dc3 pm3 an3 cd3 ct3), sl3⟩)
    (c3 : PySem.W.codeIn K cd3 "fraction" = true)
    (k3 : PySem.W.keepIn K (.ref f3) = true)
    (t3 : K.lookup tD3 = some ⟨.type "tuple", ddD3, .seq #[.int 1 tk3_0] nD3, slD3⟩)
    (a4 : PySem.W.nsIn K mainGlobals "plus" = some (some (.ref f4)))
    (l4 : K.lookup f4 = some ⟨oc4, od4, .func (PySem.W.fnOf "plus" "plus" (defArgs s_plus) (defBody s_plus) (defScope s_plus) .none kV4 dc4 pm4 an4 cd4 ct4), sl4⟩)
    (c4 : PySem.W.codeIn K cd4 "plus" = true)
    (k4 : PySem.W.keepIn K (.ref f4) = true)
    (a5 : PySem.W.nsIn K mainGlobals "minus" = some (some (.ref f5)))
    (l5 : K.lookup f5 = some ⟨oc5, od5, .func (PySem.W.fnOf "minus" "minus" (defArgs s_minus) (defBody s_minus) (defScope s_minus) .none kV5 dc5 pm5 an5 cd5 ct5), sl5⟩)
    (c5 : PySem.W.codeIn K cd5 "minus" = true)
    (k5 : PySem.W.keepIn K (.ref f5) = true)
    (a6 : PySem.W.nsIn K mainGlobals "times" = some (some (.ref f6)))
    (l6 : K.lookup f6 = some ⟨oc6, od6, .func (PySem.W.fnOf "times" "times" (defArgs s_times) (defBody s_times) (defScope s_times) .none kV6 dc6 pm6 an6 cd6 ct6), sl6⟩)
    (c6 : PySem.W.codeIn K cd6 "times" = true)
    (k6 : PySem.W.keepIn K (.ref f6) = true)
    (a7 : PySem.W.nsIn K mainGlobals "is_less" = some (some (.ref f7)))
    (l7 : K.lookup f7 = some ⟨oc7, od7, .func (PySem.W.fnOf "is_less" "is_less" (defArgs s_is_less) (defBody s_is_less) (defScope s_is_less) .none kV7 dc7 pm7 an7 cd7 ct7), sl7⟩)
    (c7 : PySem.W.codeIn K cd7 "is_less" = true)
    (k7 : PySem.W.keepIn K (.ref f7) = true)
    (a8 : PySem.W.nsIn K mainGlobals "is_fraction" = some (some (.ref f8)))
    (l8 : K.lookup f8 = some ⟨oc8, od8, .func (PySem.W.fnOf "is_fraction" "is_fraction" (defArgs s_is_fraction) (defBody s_is_fraction) (defScope s_is_fraction) .none kV8 dc8 pm8 an8 cd8 ct8), sl8⟩)
    (c8 : PySem.W.codeIn K cd8 "is_fraction" = true)
    (k8 : PySem.W.keepIn K (.ref f8) = true)
    (a9 : PySem.W.nsIn K mainGlobals "fraction_text" = some (some (.ref f9)))
    (l9 : K.lookup f9 = some ⟨oc9, od9, .func (PySem.W.fnOf "fraction_text" "fraction_text" (defArgs s_fraction_text) (defBody s_fraction_text) (defScope s_fraction_text) .none kV9 dc9 pm9 an9 cd9 ct9), sl9⟩)
    (c9 : PySem.W.codeIn K cd9 "fraction_text" = true)
    (k9 : PySem.W.keepIn K (.ref f9) = true)
    (a10 : PySem.W.nsIn K mainGlobals "_law_bag" = some (some (.ref f10)))
    (l10 : K.lookup f10 = some ⟨oc10, od10, .func (PySem.W.fnOf "_law_bag" "_law_bag" (defArgs s_l_bag) (defBody s_l_bag) (defScope s_l_bag) .none kV10 dc10 pm10 an10 cd10 ct10), sl10⟩)
    (c10 : PySem.W.codeIn K cd10 "_law_bag" = true)
    (k10 : PySem.W.keepIn K (.ref f10) = true)
    (a11 : PySem.W.nsIn K mainGlobals "_law_draw" = some (some (.ref f11)))
    (l11 : K.lookup f11 = some ⟨oc11, od11, .func (PySem.W.fnOf "_law_draw" "_law_draw" (defArgs s_l_draw) (defBody s_l_draw) (defScope s_l_draw) .none kV11 dc11 pm11 an11 cd11 ct11), sl11⟩)
    (c11 : PySem.W.codeIn K cd11 "_law_draw" = true)
    (k11 : PySem.W.keepIn K (.ref f11) = true)
    (a12 : PySem.W.nsIn K mainGlobals "_law_any" = some (some (.ref f12)))
    (l12 : K.lookup f12 = some ⟨oc12, od12, .func (PySem.W.fnOf "_law_any" "_law_any" (defArgs s_l_any) (defBody s_l_any) (defScope s_l_any) .none kV12 dc12 pm12 an12 cd12 ct12), sl12⟩)
    (c12 : PySem.W.codeIn K cd12 "_law_any" = true)
    (k12 : PySem.W.keepIn K (.ref f12) = true)
    (a13 : PySem.W.nsIn K mainGlobals "_law_top" = some (some (.ref f13)))
    (l13 : K.lookup f13 = some ⟨oc13, od13, .func (PySem.W.fnOf "_law_top" "_law_top" (defArgs s_l_top) (defBody s_l_top) (defScope s_l_top) .none kV13 dc13 pm13 an13 cd13 ct13), sl13⟩)
    (c13 : PySem.W.codeIn K cd13 "_law_top" = true)
    (k13 : PySem.W.keepIn K (.ref f13) = true)
    (a14 : PySem.W.nsIn K mainGlobals "_law_gcd" = some (some (.ref f14)))
    (l14 : K.lookup f14 = some ⟨oc14, od14, .func (PySem.W.fnOf "_law_gcd" "_law_gcd" (defArgs s_l_gcd) (defBody s_l_gcd) (defScope s_l_gcd) .none kV14 dc14 pm14 an14 cd14 ct14), sl14⟩)
    (c14 : PySem.W.codeIn K cd14 "_law_gcd" = true)
    (k14 : PySem.W.keepIn K (.ref f14) = true)
    (a15 : PySem.W.nsIn K mainGlobals "_law_low" = some (some (.ref f15)))
    (l15 : K.lookup f15 = some ⟨oc15, od15, .func (PySem.W.fnOf "_law_low" "_law_low" (defArgs s_l_low) (defBody s_l_low) (defScope s_l_low) .none kV15 dc15 pm15 an15 cd15 ct15), sl15⟩)
    (c15 : PySem.W.codeIn K cd15 "_law_low" = true)
    (k15 : PySem.W.keepIn K (.ref f15) = true)
    (a16 : PySem.W.nsIn K mainGlobals "_law_like" = some (some (.ref f16)))
    (l16 : K.lookup f16 = some ⟨oc16, od16, .func (PySem.W.fnOf "_law_like" "_law_like" (defArgs s_l_like) (defBody s_l_like) (defScope s_l_like) .none kV16 dc16 pm16 an16 cd16 ct16), sl16⟩)
    (c16 : PySem.W.codeIn K cd16 "_law_like" = true)
    (k16 : PySem.W.keepIn K (.ref f16) = true)
    (a17 : PySem.W.nsIn K mainGlobals "law" = some (some (.ref f17)))
    (l17 : K.lookup f17 = some ⟨oc17, od17, .func (PySem.W.fnOf "law" "law" (defArgs s_law) (defBody s_law) (defScope s_law) .none kV17 dc17 pm17 an17 cd17 ct17), sl17⟩)
    (c17 : PySem.W.codeIn K cd17 "law" = true)
    (k17 : PySem.W.keepIn K (.ref f17) = true)
    (qa1 : PySem.W.nsIn K mainGlobals "ONE" = some (some (.ref q1)))
    (ql1 : K.lookup q1 = some ⟨.type "tuple", qd1, .seq #[.int 1 qt1_0, .int 1 qt1_1] qn1, qs1⟩)
    (qa2 : PySem.W.nsIn K mainGlobals "ZERO" = some (some (.ref q2)))
    (ql2 : K.lookup q2 = some ⟨.type "tuple", qd2, .seq #[.int 0 qt2_0, .int 1 qt2_1] qn2, qs2⟩)
    (z1 : PySem.W.nsIn K mainGlobals "abs" = some none)
    (z2 : PySem.W.nsIn K mainGlobals "all" = some none)
    (z3 : PySem.W.nsIn K mainGlobals "bool" = some none)
    (z4 : PySem.W.nsIn K mainGlobals "dict" = some none)
    (z5 : PySem.W.nsIn K mainGlobals "int" = some none)
    (z6 : PySem.W.nsIn K mainGlobals "isinstance" = some none)
    (z7 : PySem.W.nsIn K mainGlobals "len" = some none)
    (z8 : PySem.W.nsIn K mainGlobals "list" = some none)
    (z9 : PySem.W.nsIn K mainGlobals "range" = some none)
    (z10 : PySem.W.nsIn K mainGlobals "str" = some none)
    (z11 : PySem.W.nsIn K mainGlobals "tuple" = some none) : Tx K mg where
  a_is_integer := f1
  d_is_integer := _
  F_is_integer := fun_mk (st := s_is_integer) l1 c1 k1
  g_is_integer := PySem.W.mg_of X G a1
  a_common_divisor := f2
  d_common_divisor := _
  F_common_divisor := fun_mk (st := s_common_divisor) l2 c2 k2
  g_common_divisor := PySem.W.mg_of X G a2
  a_fraction := f3
  d_fraction := _
  F_fraction := ⟨⟨_, _, _, _, _, _, _, _, _, _, rfl, l3, c3, .inr ⟨by simp, _, _, _, _, rfl, t3, rfl, (.cons ⟨_, rfl⟩ .nil)⟩, .inl rfl⟩, k3⟩
  g_fraction := PySem.W.mg_of X G a3
  a_plus := f4
  d_plus := _
  F_plus := fun_mk (st := s_plus) l4 c4 k4
  g_plus := PySem.W.mg_of X G a4
  a_minus := f5
  d_minus := _
  F_minus := fun_mk (st := s_minus) l5 c5 k5
  g_minus := PySem.W.mg_of X G a5
  a_times := f6
  d_times := _
  F_times := fun_mk (st := s_times) l6 c6 k6
  g_times := PySem.W.mg_of X G a6
  a_is_less := f7
  d_is_less := _
  F_is_less := fun_mk (st := s_is_less) l7 c7 k7
  g_is_less := PySem.W.mg_of X G a7
  a_is_fraction := f8
  d_is_fraction := _
  F_is_fraction := fun_mk (st := s_is_fraction) l8 c8 k8
  g_is_fraction := PySem.W.mg_of X G a8
  a_fraction_text := f9
  d_fraction_text := _
  F_fraction_text := fun_mk (st := s_fraction_text) l9 c9 k9
  g_fraction_text := PySem.W.mg_of X G a9
  a_l_bag := f10
  d_l_bag := _
  F_l_bag := fun_mk (st := s_l_bag) l10 c10 k10
  g_l_bag := PySem.W.mg_of X G a10
  a_l_draw := f11
  d_l_draw := _
  F_l_draw := fun_mk (st := s_l_draw) l11 c11 k11
  g_l_draw := PySem.W.mg_of X G a11
  a_l_any := f12
  d_l_any := _
  F_l_any := fun_mk (st := s_l_any) l12 c12 k12
  g_l_any := PySem.W.mg_of X G a12
  a_l_top := f13
  d_l_top := _
  F_l_top := fun_mk (st := s_l_top) l13 c13 k13
  g_l_top := PySem.W.mg_of X G a13
  a_l_gcd := f14
  d_l_gcd := _
  F_l_gcd := fun_mk (st := s_l_gcd) l14 c14 k14
  g_l_gcd := PySem.W.mg_of X G a14
  a_l_low := f15
  d_l_low := _
  F_l_low := fun_mk (st := s_l_low) l15 c15 k15
  g_l_low := PySem.W.mg_of X G a15
  a_l_like := f16
  d_l_like := _
  F_l_like := fun_mk (st := s_l_like) l16 c16 k16
  g_l_like := PySem.W.mg_of X G a16
  a_law := f17
  d_law := _
  F_law := fun_mk (st := s_law) l17 c17 k17
  g_law := PySem.W.mg_of X G a17
  a_ONE := q1
  g_ONE := PySem.W.mg_of X G qa1
  k_ONE := ⟨_, _, _, ql1, rfl, rfl, szle (by simp), (.cons ⟨_, rfl⟩ (.cons ⟨_, rfl⟩ .nil))⟩
  a_ZERO := q2
  g_ZERO := PySem.W.mg_of X G qa2
  k_ZERO := ⟨_, _, _, ql2, rfl, rfl, szle (by simp), (.cons ⟨_, rfl⟩ (.cons ⟨_, rfl⟩ .nil))⟩
  z_abs := PySem.W.mg_none_of X G z1
  z_all := PySem.W.mg_none_of X G z2
  z_bool := PySem.W.mg_none_of X G z3
  z_dict := PySem.W.mg_none_of X G z4
  z_int := PySem.W.mg_none_of X G z5
  z_isinstance := PySem.W.mg_none_of X G z6
  z_len := PySem.W.mg_none_of X G z7
  z_list := PySem.W.mg_none_of X G z8
  z_range := PySem.W.mg_none_of X G z9
  z_str := PySem.W.mg_none_of X G z10
  z_tuple := PySem.W.mg_none_of X G z11
theorem all_mk {l : PySem.W.OpenLaw} {w : World} {K : PySem.W.Frag} {h : Heap} {mg : Str → Option Value} {fa : Addr} (X : K.In h) (G : h.Ns mainGlobals mg) (hfa : mg "law" = some (.ref fa))
    {f1 : Addr} {od1 an1 : Option Addr} {sl1 : Array (Option Value)} {oc1 kV1 dc1 pm1 cd1 ct1 : Value}
    {f2 : Addr} {od2 an2 : Option Addr} {sl2 : Array (Option Value)} {oc2 kV2 dc2 pm2 cd2 ct2 : Value}
    {f3 : Addr} {od3 an3 : Option Addr} {sl3 : Array (Option Value)} {oc3 kV3 dc3 pm3 cd3 ct3 : Value}
    {tD3 : Addr} {ddD3 : Option Addr} {nD3 : Nat} {slD3 : Array (Option Value)} {tk3_0 : Tok}
    {f4 : Addr} {od4 an4 : Option Addr} {sl4 : Array (Option Value)} {oc4 kV4 dc4 pm4 cd4 ct4 : Value}
    {f5 : Addr} {od5 an5 : Option Addr} {sl5 : Array (Option Value)} {oc5 kV5 dc5 pm5 cd5 ct5 : Value}
    {f6 : Addr} {od6 an6 : Option Addr} {sl6 : Array (Option Value)} {oc6 kV6 dc6 pm6 cd6 ct6 : Value}
    {f7 : Addr} {od7 an7 : Option Addr} {sl7 : Array (Option Value)} {oc7 kV7 dc7 pm7 cd7 ct7 : Value}
    {f8 : Addr} {od8 an8 : Option Addr} {sl8 : Array (Option Value)} {oc8 kV8 dc8 pm8 cd8 ct8 : Value}
    {f9 : Addr} {od9 an9 : Option Addr} {sl9 : Array (Option Value)} {oc9 kV9 dc9 pm9 cd9 ct9 : Value}
    {f10 : Addr} {od10 an10 : Option Addr} {sl10 : Array (Option Value)} {oc10 kV10 dc10 pm10 cd10 ct10 : Value}
    {f11 : Addr} {od11 an11 : Option Addr} {sl11 : Array (Option Value)} {oc11 kV11 dc11 pm11 cd11 ct11 : Value}
    {f12 : Addr} {od12 an12 : Option Addr} {sl12 : Array (Option Value)} {oc12 kV12 dc12 pm12 cd12 ct12 : Value}
    {f13 : Addr} {od13 an13 : Option Addr} {sl13 : Array (Option Value)} {oc13 kV13 dc13 pm13 cd13 ct13 : Value}
    {f14 : Addr} {od14 an14 : Option Addr} {sl14 : Array (Option Value)} {oc14 kV14 dc14 pm14 cd14 ct14 : Value}
    {f15 : Addr} {od15 an15 : Option Addr} {sl15 : Array (Option Value)} {oc15 kV15 dc15 pm15 cd15 ct15 : Value}
    {f16 : Addr} {od16 an16 : Option Addr} {sl16 : Array (Option Value)} {oc16 kV16 dc16 pm16 cd16 ct16 : Value}
    {f17 : Addr} {od17 an17 : Option Addr} {sl17 : Array (Option Value)} {oc17 kV17 dc17 pm17 cd17 ct17 : Value}
    {q1 : Addr} {qd1 : Option Addr} {qn1 : Nat} {qs1 : Array (Option Value)} {qt1_0 : Tok} {qt1_1 : Tok}
    {q2 : Addr} {qd2 : Option Addr} {qn2 : Nat} {qs2 : Array (Option Value)} {qt2_0 : Tok} {qt2_1 : Tok}
    (a1 : PySem.W.nsIn K mainGlobals "is_integer" = some (some (.ref f1)))
    (l1 : K.lookup f1 = some ⟨oc1, od1, .func (PySem.W.fnOf "is_integer" "is_integer" (defArgs s_is_integer) (defBody s_is_integer) (defScope s_is_integer) .none kV1 dc1 pm1 an1 cd1 ct1), sl1⟩)
    (c1 : PySem.W.codeIn K cd1 "is_integer" = true)
    (k1 : PySem.W.keepIn K (.ref f1) = true)
    (a2 : PySem.W.nsIn K mainGlobals "common_divisor" = some (some (.ref f2)))
    (l2 : K.lookup f2 = some ⟨oc2, od2, .func (PySem.W.fnOf "common_divisor" "common_divisor" (defArgs s_common_divisor) (defBody s_common_divisor) (defScope s_common_divisor) .none kV2 dc2 pm2 an2 cd2 ct2), sl2⟩)
    (c2 : PySem.W.codeIn K cd2 "common_divisor" = true)
    (k2 : PySem.W.keepIn K (.ref f2) = true)
    (a3 : PySem.W.nsIn K mainGlobals "fraction" = some (some (.ref f3)))
    (l3 : K.lookup f3 = some ⟨oc3, od3, .func (PySem.W.fnOf "fraction" "fraction" (defArgs s_fraction) (defBody s_fraction) (defScope s_fraction) (.ref tD3) kV3 dc3 pm3 an3 cd3 ct3), sl3⟩)
    (c3 : PySem.W.codeIn K cd3 "fraction" = true)
    (k3 : PySem.W.keepIn K (.ref f3) = true)
    (t3 : K.lookup tD3 = some ⟨.type "tuple", ddD3, .seq #[.int 1 tk3_0] nD3, slD3⟩)
    (a4 : PySem.W.nsIn K mainGlobals "plus" = some (some (.ref f4)))
    (l4 : K.lookup f4 = some ⟨oc4, od4, .func (PySem.W.fnOf "plus" "plus" (defArgs s_plus) (defBody s_plus) (defScope s_plus) .none kV4 dc4 pm4 an4 cd4 ct4), sl4⟩)
    (c4 : PySem.W.codeIn K cd4 "plus" = true)
    (k4 : PySem.W.keepIn K (.ref f4) = true)
    (a5 : PySem.W.nsIn K mainGlobals "minus" = some (some (.ref f5)))
    (l5 : K.lookup f5 = some ⟨oc5, od5, .func (PySem.W.fnOf "minus" "minus" (defArgs s_minus) (defBody s_minus) (defScope s_minus) .none kV5 dc5 pm5 an5 cd5 ct5), sl5⟩)
    (c5 : PySem.W.codeIn K cd5 "minus" = true)
    (k5 : PySem.W.keepIn K (.ref f5) = true)
    (a6 : PySem.W.nsIn K mainGlobals "times" = some (some (.ref f6)))
    (l6 : K.lookup f6 = some ⟨oc6, od6, .func (PySem.W.fnOf "times" "times" (defArgs s_times) (defBody s_times) (defScope s_times) .none kV6 dc6 pm6 an6 cd6 ct6), sl6⟩)
    (c6 : PySem.W.codeIn K cd6 "times" = true)
    (k6 : PySem.W.keepIn K (.ref f6) = true)
    (a7 : PySem.W.nsIn K mainGlobals "is_less" = some (some (.ref f7)))
    (l7 : K.lookup f7 = some ⟨oc7, od7, .func (PySem.W.fnOf "is_less" "is_less" (defArgs s_is_less) (defBody s_is_less) (defScope s_is_less) .none kV7 dc7 pm7 an7 cd7 ct7), sl7⟩)
    (c7 : PySem.W.codeIn K cd7 "is_less" = true)
    (k7 : PySem.W.keepIn K (.ref f7) = true)
    (a8 : PySem.W.nsIn K mainGlobals "is_fraction" = some (some (.ref f8)))
    (l8 : K.lookup f8 = some ⟨oc8, od8, .func (PySem.W.fnOf "is_fraction" "is_fraction" (defArgs s_is_fraction) (defBody s_is_fraction) (defScope s_is_fraction) .none kV8 dc8 pm8 an8 cd8 ct8), sl8⟩)
    (c8 : PySem.W.codeIn K cd8 "is_fraction" = true)
    (k8 : PySem.W.keepIn K (.ref f8) = true)
    (a9 : PySem.W.nsIn K mainGlobals "fraction_text" = some (some (.ref f9)))
    (l9 : K.lookup f9 = some ⟨oc9, od9, .func (PySem.W.fnOf "fraction_text" "fraction_text" (defArgs s_fraction_text) (defBody s_fraction_text) (defScope s_fraction_text) .none kV9 dc9 pm9 an9 cd9 ct9), sl9⟩)
    (c9 : PySem.W.codeIn K cd9 "fraction_text" = true)
    (k9 : PySem.W.keepIn K (.ref f9) = true)
    (a10 : PySem.W.nsIn K mainGlobals "_law_bag" = some (some (.ref f10)))
    (l10 : K.lookup f10 = some ⟨oc10, od10, .func (PySem.W.fnOf "_law_bag" "_law_bag" (defArgs s_l_bag) (defBody s_l_bag) (defScope s_l_bag) .none kV10 dc10 pm10 an10 cd10 ct10), sl10⟩)
    (c10 : PySem.W.codeIn K cd10 "_law_bag" = true)
    (k10 : PySem.W.keepIn K (.ref f10) = true)
    (a11 : PySem.W.nsIn K mainGlobals "_law_draw" = some (some (.ref f11)))
    (l11 : K.lookup f11 = some ⟨oc11, od11, .func (PySem.W.fnOf "_law_draw" "_law_draw" (defArgs s_l_draw) (defBody s_l_draw) (defScope s_l_draw) .none kV11 dc11 pm11 an11 cd11 ct11), sl11⟩)
    (c11 : PySem.W.codeIn K cd11 "_law_draw" = true)
    (k11 : PySem.W.keepIn K (.ref f11) = true)
    (a12 : PySem.W.nsIn K mainGlobals "_law_any" = some (some (.ref f12)))
    (l12 : K.lookup f12 = some ⟨oc12, od12, .func (PySem.W.fnOf "_law_any" "_law_any" (defArgs s_l_any) (defBody s_l_any) (defScope s_l_any) .none kV12 dc12 pm12 an12 cd12 ct12), sl12⟩)
    (c12 : PySem.W.codeIn K cd12 "_law_any" = true)
    (k12 : PySem.W.keepIn K (.ref f12) = true)
    (a13 : PySem.W.nsIn K mainGlobals "_law_top" = some (some (.ref f13)))
    (l13 : K.lookup f13 = some ⟨oc13, od13, .func (PySem.W.fnOf "_law_top" "_law_top" (defArgs s_l_top) (defBody s_l_top) (defScope s_l_top) .none kV13 dc13 pm13 an13 cd13 ct13), sl13⟩)
    (c13 : PySem.W.codeIn K cd13 "_law_top" = true)
    (k13 : PySem.W.keepIn K (.ref f13) = true)
    (a14 : PySem.W.nsIn K mainGlobals "_law_gcd" = some (some (.ref f14)))
    (l14 : K.lookup f14 = some ⟨oc14, od14, .func (PySem.W.fnOf "_law_gcd" "_law_gcd" (defArgs s_l_gcd) (defBody s_l_gcd) (defScope s_l_gcd) .none kV14 dc14 pm14 an14 cd14 ct14), sl14⟩)
    (c14 : PySem.W.codeIn K cd14 "_law_gcd" = true)
    (k14 : PySem.W.keepIn K (.ref f14) = true)
    (a15 : PySem.W.nsIn K mainGlobals "_law_low" = some (some (.ref f15)))
    (l15 : K.lookup f15 = some ⟨oc15, od15, .func (PySem.W.fnOf "_law_low" "_law_low" (defArgs s_l_low) (defBody s_l_low) (defScope s_l_low) .none kV15 dc15 pm15 an15 cd15 ct15), sl15⟩)
    (c15 : PySem.W.codeIn K cd15 "_law_low" = true)
    (k15 : PySem.W.keepIn K (.ref f15) = true)
    (a16 : PySem.W.nsIn K mainGlobals "_law_like" = some (some (.ref f16)))
    (l16 : K.lookup f16 = some ⟨oc16, od16, .func (PySem.W.fnOf "_law_like" "_law_like" (defArgs s_l_like) (defBody s_l_like) (defScope s_l_like) .none kV16 dc16 pm16 an16 cd16 ct16), sl16⟩)
    (c16 : PySem.W.codeIn K cd16 "_law_like" = true)
    (k16 : PySem.W.keepIn K (.ref f16) = true)
    (a17 : PySem.W.nsIn K mainGlobals "law" = some (some (.ref f17)))
    (l17 : K.lookup f17 = some ⟨oc17, od17, .func (PySem.W.fnOf "law" "law" (defArgs s_law) (defBody s_law) (defScope s_law) .none kV17 dc17 pm17 an17 cd17 ct17), sl17⟩)
    (c17 : PySem.W.codeIn K cd17 "law" = true)
    (k17 : PySem.W.keepIn K (.ref f17) = true)
    (qa1 : PySem.W.nsIn K mainGlobals "ONE" = some (some (.ref q1)))
    (ql1 : K.lookup q1 = some ⟨.type "tuple", qd1, .seq #[.int 1 qt1_0, .int 1 qt1_1] qn1, qs1⟩)
    (qa2 : PySem.W.nsIn K mainGlobals "ZERO" = some (some (.ref q2)))
    (ql2 : K.lookup q2 = some ⟨.type "tuple", qd2, .seq #[.int 0 qt2_0, .int 1 qt2_1] qn2, qs2⟩)
    (z1 : PySem.W.nsIn K mainGlobals "abs" = some none)
    (z2 : PySem.W.nsIn K mainGlobals "all" = some none)
    (z3 : PySem.W.nsIn K mainGlobals "bool" = some none)
    (z4 : PySem.W.nsIn K mainGlobals "dict" = some none)
    (z5 : PySem.W.nsIn K mainGlobals "int" = some none)
    (z6 : PySem.W.nsIn K mainGlobals "isinstance" = some none)
    (z7 : PySem.W.nsIn K mainGlobals "len" = some none)
    (z8 : PySem.W.nsIn K mainGlobals "list" = some none)
    (z9 : PySem.W.nsIn K mainGlobals "range" = some none)
    (z10 : PySem.W.nsIn K mainGlobals "str" = some none)
    (z11 : PySem.W.nsIn K mainGlobals "tuple" = some none) :
    ∃ fd : FuncData, (∀ (s : Shared) (v : Value), BindsTo s fd ⟨[v], []⟩ [("_law_script", v)]) ∧ ∀ base : Heap, K.In base → base.Ns mainGlobals mg → FnOk l.prog w K mg base CX0 6 fa fd ["_law_script"] (spLaw K) := by
  have e := hfa.symm.trans (PySem.W.mg_of X G a17)
  cases e
  exact ⟨PySem.W.fnOf "law" "law" (defArgs s_law) (defBody s_law) (defScope s_law) .none kV17 dc17 pm17 an17 cd17 ct17, fun s v => .of_eq rfl, fun base _ _ => ok_law (mkTx (w := w) X G a1 l1 c1 k1 a2 l2 c2 k2 a3 l3 c3 k3 t3 a4 l4 c4 k4 a5 l5 c5 k5 a6 l6 c6 k6 a7 l7 c7 k7 a8 l8 c8 k8 a9 l9 c9 k9 a10 l10 c10 k10 a11 l11 c11 k11 a12 l12 c12 k12 a13 l13 c13 k13 a14 l14 c14 k14 a15 l15 c15 k15 a16 l16 c16 k16 a17 l17 c17 k17 qa1 ql1 qa2 ql2 z1 z2 z3 z4 z5 z6 z7 z8 z9 z10 z11)⟩
theorem walk {l : PySem.W.OpenLaw} {q : Program} {loose : List Str} {XP : (Str → Option Value) → Heap → Prop} {YP : World → Heap → Prop} {d : DefRec} {K : Params → PySem.W.Frag} (hn : l.most = some 63) (hdf : d.params.defaults = [])
    (hY : ∀ (w : World) (h : Heap), YP w h → (K w.params).In h)
    (F : ∀ (w : World) (mg : Str → Option Value) (fa : Addr) (h : Heap), (K w.params).In h → h.Ns mainGlobals mg → mg d.name = some (.ref fa) →
      ∃ fd : FuncData, (∀ (s : Shared) (u : Value), BindsTo s fd ⟨[u], []⟩ [("_law_script", u)]) ∧ ∀ base : Heap, (K w.params).In base → base.Ns mainGlobals mg → FnOk l.prog w (K w.params) mg base CX0 6 fa fd ["_law_script"] (spLaw (K w.params))) :
    PySem.W.WalkO q loose XP YP l.row.toRowW d [] (fun f vs => PySem.call f vs) :=
  L2.walk_of (n := 63) (k := 6) (x := "_law_script") (CX := fun _ => CX0) (sp := fun w => spLaw (K w.params)) hn (by decide) hdf ⟨rfl, by decide, by decide⟩ hY F (fun _ _ a ns hl _ hS => ⟨a, ns, rfl, hS, hl, fun _ => rfl⟩) fun _ _ _ _ _ z => z
end G218
open PySem PySem.W PyProof.Rows
set_option maxRecDepth 100000 in
set_option maxHeartbeats 0 in
theorem PySem.Challenge.cw_hemprice_k01_fractions_holds : PySem.Challenge.rw_hemprice_k01_fractions.Holds := by
  w_on; o_law; k_head; (case hw => w_witness2)
  k_fill
  refine G218.walk (l := PySem.Challenge.rw_hemprice_k01_fractions) rfl rfl (fun w h Y => PySem.W.kIn_of Y) ?F
  case F =>
    intro w mg fa h KX G hmg
    refine' G218.all_mk KX G hmg ?a1 ?l1 ?c1 ?k1 ?a2 ?l2 ?c2 ?k2 ?a3 ?l3 ?c3 ?k3 ?t3 ?a4 ?l4 ?c4 ?k4 ?a5 ?l5 ?c5 ?k5 ?a6 ?l6 ?c6 ?k6 ?a7 ?l7 ?c7 ?k7 ?a8 ?l8 ?c8 ?k8 ?a9 ?l9 ?c9 ?k9 ?a10 ?l10 ?c10 ?k10 ?a11 ?l11 ?c11 ?k11 ?a12 ?l12 ?c12 ?k12 ?a13 ?l13 ?c13 ?k13 ?a14 ?l14 ?c14 ?k14 ?a15 ?l15 ?c15 ?k15 ?a16 ?l16 ?c16 ?k16 ?a17 ?l17 ?c17 ?k17 ?qa1 ?ql1 ?qa2 ?ql2 ?z1 ?z2 ?z3 ?z4 ?z5 ?z6 ?z7 ?z8 ?z9 ?z10 ?z11
    (case a1 => k_is)
    (case l1 => k_is)
    (case c1 => k_is)
    (case k1 => k_is)
    (case a2 => k_is)
    (case l2 => k_is)
    (case c2 => k_is)
    (case k2 => k_is)
    (case a3 => k_is)
    (case l3 => k_is)
    (case c3 => k_is)
    (case k3 => k_is)
    (case t3 => k_is)
    (case a4 => k_is)
    (case l4 => k_is)
    (case c4 => k_is)
    (case k4 => k_is)
    (case a5 => k_is)
    (case l5 => k_is)
    (case c5 => k_is)
    (case k5 => k_is)
    (case a6 => k_is)
    (case l6 => k_is)
    (case c6 => k_is)
    (case k6 => k_is)
    (case a7 => k_is)
    (case l7 => k_is)
    (case c7 => k_is)
    (case k7 => k_is)
    (case a8 => k_is)
    (case l8 => k_is)
    (case c8 => k_is)
    (case k8 => k_is)
    (case a9 => k_is)
    (case l9 => k_is)
    (case c9 => k_is)
    (case k9 => k_is)
    (case a10 => k_is)
    (case l10 => k_is)
    (case c10 => k_is)
    (case k10 => k_is)
    (case a11 => k_is)
    (case l11 => k_is)
    (case c11 => k_is)
    (case k11 => k_is)
    (case a12 => k_is)
    (case l12 => k_is)
    (case c12 => k_is)
    (case k12 => k_is)
    (case a13 => k_is)
    (case l13 => k_is)
    (case c13 => k_is)
    (case k13 => k_is)
    (case a14 => k_is)
    (case l14 => k_is)
    (case c14 => k_is)
    (case k14 => k_is)
    (case a15 => k_is)
    (case l15 => k_is)
    (case c15 => k_is)
    (case k15 => k_is)
    (case a16 => k_is)
    (case l16 => k_is)
    (case c16 => k_is)
    (case k16 => k_is)
    (case a17 => k_is)
    (case l17 => k_is)
    (case c17 => k_is)
    (case k17 => k_is)
    (case qa1 => k_is)
    (case ql1 => k_is)
    (case qa2 => k_is)
    (case ql2 => k_is)
    (case z1 => k_is)
    (case z2 => k_is)
    (case z3 => k_is)
    (case z4 => k_is)
    (case z5 => k_is)
    (case z6 => k_is)
    (case z7 => k_is)
    (case z8 => k_is)
    (case z9 => k_is)
    (case z10 => k_is)
    (case z11 => k_is)
#print axioms PySem.Challenge.cw_hemprice_k01_fractions_holds
