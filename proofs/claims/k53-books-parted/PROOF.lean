import PyProof.Rows.All
import Wide.All
import OpenK.AllK
import Wide.FinOn
import HandS.ForMost
import HandS.ForExc
import HandS.Defaults
import HandS.MakeKwOnly
import HandS.IsInst
import HandS.FStr
import HandS.Star
import HandS.TupAny
import HandS.StrMore
import HandS.Steps
import HandS.Property
import KE.GoesMore
import HandS.Style
import HandS.Dict
import HandS.More
import HandS.Evl
import HandS.Small
import KE.DataMinMax
import KE.SortData
import HandS.Codes
import HandS.HeadHook2
import HandS.HeadEnd
import HandS.Head2
import PySem.Challenge.RW_chunkletters_k53_books_parted
set_option Elab.async false
set_option linter.all false
set_option maxRecDepth 100000
set_option maxHeartbeats 4000000
/-! The layer of short words over the hand layer: values that are told without a change of the heap, tests, statements. -/
namespace L2
open PySem PySem.Spec PyProof.Rows
/-! ### names of the module -/
section
variable {X : Cx} {x : Str} {pos : Pos}
theorem pe_gi {i : Int} (hm : ∃ t, X.mg x = some (.int i t)) (hg : Gl X x := by rfl) (hd : (x == ("__debug__" : Str)) = false := by decide) : PE X (.Name x pos) (tC (.int i)) :=
  let ⟨t, h⟩ := hm
  pe_glob hg h ⟨t, rfl⟩ hd
theorem pe_gs {z : Str} (hm : ∃ t, X.mg x = some (.str z t)) (hg : Gl X x := by rfl) (hd : (x == ("__debug__" : Str)) = false := by decide) : PE X (.Name x pos) (tC (.str z)) :=
  let ⟨t, h⟩ := hm
  pe_glob hg h ⟨t, rfl⟩ hd
theorem pe_gr {a : Addr} (hm : X.mg x = some (.ref a)) (hg : Gl X x := by rfl) (hd : (x == ("__debug__" : Str)) = false := by decide) : PE X (.Name x pos) (tC (.ref a)) :=
  pe_glob hg hm rfl hd
end
/-! ### values, told where they stand: the heap is not changed -/
section
variable {σ : St} {H : Hp} {i : Nat} {v x y z : V} {ta tb tc te : TE} {b c : Bool} {K : PySem.W.Frag} {a C dx : Addr} {fs : List (Str × V)} {f : Str} {t u : TT} {tr : TA} {vs : List V}
def ValA (t : TA) (σ : St) (H : Hp) (vs : List V) : Prop := ∀ Q : List V → Hp → Prop, Q vs H → t σ H Q
theorem va_nil : ValA tNil σ H [] := fun _ q => q
theorem va_cons (h : Val ta σ H x) (r : ValA tr σ H vs) : ValA (tCons ta tr) σ H (x :: vs) := fun _ q => h _ (r _ q)
theorem vl_var (h : σ[i]? = some (some v)) : Val (tVar i) σ H v := val_var h
theorem vl_c : Val (tC v) σ H v := val_c
theorem vl_I0 {g : Int → Int → V} {m n : Int} (ha : Val ta σ H (.int m)) (hb : Val tb σ H (.int n)) : Val (tOp (rI0 g) ta tb) σ H (g m n) :=
  fun _ q => ha _ (hb _ ⟨m, n, rfl, rfl, q⟩)
theorem vl_I {g : Int → Int → V} {D : Int → Int → Prop} {m n : Int} (ha : Val ta σ H (.int m)) (hb : Val tb σ H (.int n)) (h : D m n) : Val (tOp (rI D g) ta tb) σ H (g m n) :=
  fun _ q => ha _ (hb _ ⟨m, n, rfl, rfl, h, q⟩)
theorem vl_eq (ha : Val ta σ H x) (hb : Val tb σ H y) (h : scal x y = true) : Val (tOp rEq ta tb) σ H (.bl (decide (x = y))) := fun _ q => ha _ (hb _ ⟨h, q⟩)
theorem vl_ne (ha : Val ta σ H x) (hb : Val tb σ H y) (h : scal x y = true) : Val (tOp rNe ta tb) σ H (.bl (!decide (x = y))) := fun _ q => ha _ (hb _ ⟨h, q⟩)
theorem vl_addS {m n : Str} (ha : Val ta σ H (.str m)) (hb : Val tb σ H (.str n)) (h : m.length + n.length ≤ sizeLine) :
    Val (tOp (fun x y H Q => ∃ i j, x = .str i ∧ y = .str j ∧ i.length + j.length ≤ sizeLine ∧ Q (.str (i ++ j)) H) ta tb) σ H (.str (m ++ n)) := fun _ q => ha _ (hb _ ⟨m, n, rfl, rfl, h, q⟩)
theorem vl_inSign {m : Nat} {n : Str} (ha : Val ta σ H (.str ⟨#[m]⟩)) (hb : Val tb σ H (.str n)) :
    Val (tOp (fun x y H Q => ∃ (c : Nat) (z : Str), x = .str ⟨#[c]⟩ ∧ y = .str z ∧ Q (.bl (decide (c ∈ z.cps.toList))) H) ta tb) σ H (.bl (decide (m ∈ n.cps.toList))) := fun _ q => ha _ (hb _ ⟨m, n, rfl, rfl, q⟩)
theorem vl_notInSign {m : Nat} {n : Str} (ha : Val ta σ H (.str ⟨#[m]⟩)) (hb : Val tb σ H (.str n)) :
    Val (tOp (fun x y H Q => ∃ (c : Nat) (z : Str), x = .str ⟨#[c]⟩ ∧ y = .str z ∧ Q (.bl (!decide (c ∈ z.cps.toList))) H) ta tb) σ H (.bl (!decide (m ∈ n.cps.toList))) := fun _ q => ha _ (hb _ ⟨m, n, rfl, rfl, q⟩)
theorem vl_isN (ha : Val ta σ H x) : Val (tOp (fun x y H Q => y = .non ∧ Q (.bl (decide (x = .non))) H) ta (tC .non)) σ H (.bl (decide (x = .non))) := fun _ q => ha _ ⟨rfl, q⟩
theorem vl_notN (ha : Val ta σ H x) : Val (tOp (fun x y H Q => y = .non ∧ Q (.bl (!decide (x = .non))) H) ta (tC .non)) σ H (.bl (!decide (x = .non))) := fun _ q => ha _ ⟨rfl, q⟩
theorem vl_inT {neg : Bool} (ha : Val ta σ H x) (hb : Val tb σ H (.ref a)) (h : SqL K H a vs ∨ SqT K H a vs) (hx : flatV x = true) (hf : vs.all flatV = true) : Val (tOp (rIn K neg) ta tb) σ H (.bl (if neg then !inV x vs else inV x vs)) :=
  fun _ q => ha _ (hb _ ⟨a, vs, rfl, h, hx, hf, q⟩)
theorem vl_ixL {n : Int} (ha : Val ta σ H (.ref a)) (hb : Val tb σ H (.int n)) (h : SqL K H a vs) (hv : atI vs n = some v) : Val (tOp (rIxL K) ta tb) σ H v := fun _ q => ha _ (hb _ ⟨a, vs, n, v, rfl, rfl, h, hv, q⟩)
theorem vl_ixT {n : Int} (ha : Val ta σ H (.ref a)) (hb : Val tb σ H (.int n)) (h : SqT K H a vs) (hv : atI vs n = some v) : Val (tOp (rIxT K) ta tb) σ H v := fun _ q => ha _ (hb _ ⟨a, vs, n, v, rfl, rfl, h, hv, q⟩)
theorem vl_ixS {n : Int} {w : Str} {m : Nat} (ha : Val ta σ H (.str w)) (hb : Val tb σ H (.int n)) (h : w.length ≤ sizeLine) (hv : atI w.cps.toList n = some m) : Val (tOp rIxS ta tb) σ H (.str ⟨#[m]⟩) :=
  fun _ q => ha _ (hb _ ⟨w, n, m, rfl, rfl, h, hv, q⟩)
theorem vl_chain {r r' : R2} (ha : Val ta σ H x) (hb : Val tb σ H y) (h1 : ∀ Q : VK, Q (.bl b) H → r x y H Q) (hc : b = true → Val tc σ H z) (h2 : b = true → ∀ Q : VK, Q (.bl c) H → r' y z H Q) :
    Val (tChain r r' ta tb tc) σ H (.bl (b && c)) := by
  intro Q q
  refine ha _ (hb _ (h1 _ ⟨b, rfl, ?_⟩))
  cases b with
  | true => exact hc rfl _ (h2 rfl _ q)
  | false => exact q
theorem vl_chainI {p q : Int → Int → Bool} {l m n : Int} (ha : Val ta σ H (.int l)) (hb : Val tb σ H (.int m)) (hc : Val tc σ H (.int n)) :
    Val (tChain (rI0 fun i j => .bl (p i j)) (rI0 fun i j => .bl (q i j)) ta tb tc) σ H (.bl (p l m && q m n)) :=
  vl_chain ha hb (fun _ k => ⟨l, m, rfl, rfl, k⟩) (fun _ => hc) fun _ _ k => ⟨m, n, rfl, rfl, k⟩
theorem vl_andV (ha : Val ta σ H (.bl b)) (hb : b = true → Val tb σ H (.bl c)) : Val (tAndV ta tb) σ H (.bl (b && c)) := fun Q q => ha _ ⟨b, rfl, by
  cases b with
  | true => exact hb rfl Q q
  | false => exact q⟩
theorem vl_orV (ha : Val ta σ H (.bl b)) (hb : b = false → Val tb σ H (.bl c)) : Val (tOrV ta tb) σ H (.bl (b || c)) := fun Q q => ha _ ⟨b, rfl, by
  cases b with
  | false => exact hb rfl Q q
  | true => exact q⟩
theorem vl_notV (ha : Val ta σ H (.bl b)) : Val (tNotV ta) σ H (.bl (!b)) := fun Q q => ha _ ⟨b, rfl, q⟩
theorem vl_if (h : Ans t σ H b) (h1 : b = true → Val ta σ H x) (h2 : b = false → Val tb σ H y) : Val (tIf t ta tb) σ H (bif b then x else y) := fun Q q => h _ (by
  cases b with
  | true => exact h1 rfl Q q
  | false => exact h2 rfl Q q)
theorem vl_is (h : Val te σ H v) (e : v = z) : Val te σ H z := e ▸ h
theorem vl_fld (h : Val ta σ H (.ref a)) (ho : H a = some (.ins C dx fs)) (hc : Cls K C) (hn : NoAttr K C f) (hl : fs.lookup f = some v) : Val (tFld K ta f) σ H v := val_fld h ho hc hn hl
theorem vl_cb {r : List V → Hp → VK → Prop} (h : ValA tr σ H vs) (hr : ∀ Q : VK, Q v H → r vs H Q) : Val (tCB r tr) σ H v := fun Q q => h _ (hr Q q)
theorem vl_min2 {m n : Int} (h : ValA tr σ H [.int m, .int n]) : Val (tCB (fun xs H Q => ∃ i j, xs = [.int i, .int j] ∧ Q (.int (if j < i then j else i)) H) tr) σ H (.int (if n < m then n else m)) := vl_cb h fun _ q => ⟨m, n, rfl, q⟩
theorem vl_max2 {m n : Int} (h : ValA tr σ H [.int m, .int n]) : Val (tCB (fun xs H Q => ∃ i j, xs = [.int i, .int j] ∧ Q (.int (if j > i then j else i)) H) tr) σ H (.int (if n > m then n else m)) := vl_cb h fun _ q => ⟨m, n, rfl, q⟩
theorem vl_lenS {n : Str} (h : ValA tr σ H [.str n]) (hz : n.length ≤ sizeLine) : Val (tCB (fun xs H Q => ∃ z, xs = [.str z] ∧ z.length ≤ sizeLine ∧ Q (.int z.length) H) tr) σ H (.int n.length) := vl_cb h fun _ q => ⟨n, rfl, hz, q⟩
theorem vl_len (h : ValA tr σ H [.ref a]) (hs : SqL K H a vs ∨ SqT K H a vs) : Val (tCB (fun xs H Q => ∃ p ys, xs = [.ref p] ∧ (SqL K H p ys ∨ SqT K H p ys) ∧ Q (.int ys.length) H) tr) σ H (.int vs.length) := vl_cb h fun _ q => ⟨a, vs, rfl, hs, q⟩
theorem vl_int1b (h : ValA tr σ H [.bl b]) : Val (tCB (fun xs H Q => (∃ i, xs = [.int i] ∧ Q (.int i) H) ∨ ∃ k, xs = [.bl k] ∧ Q (.int (if k then 1 else 0)) H) tr) σ H (.int (if b then 1 else 0)) := vl_cb h fun _ q => .inr ⟨b, rfl, q⟩
theorem vl_abs {m : Int} (h : ValA tr σ H [.int m]) : Val (tCB (fun xs H Q => ∃ i, xs = [.int i] ∧ Q (.int (if i < 0 then -i else i)) H) tr) σ H (.int (if m < 0 then -m else m)) := vl_cb h fun _ q => ⟨m, rfl, q⟩
theorem vl_isi {n : String} {ty : Value} (h : ValA tr σ H [x, .ty n]) (ht : TyX K H x ty) (hk : PySem.W.kitOne K ty (.type n) = some b) : Val (tCB (rIsi K) tr) σ H (.bl b) := vl_cb h fun _ q => ⟨x, .ty n, ty, .type n, b, rfl, .ty n, ht, hk, q⟩
theorem vl_isiC {ty : Value} (h : ValA tr σ H [x, .ref a]) (ht : TyX K H x ty) (hk : PySem.W.kitOne K ty (.ref a) = some b) : Val (tCB (rIsi K) tr) σ H (.bl b) := vl_cb h fun _ q => ⟨x, .ref a, ty, .ref a, b, rfl, .own a, ht, hk, q⟩
theorem vl_bmS {r : V → List V → Hp → VK → Prop} {m : Str} (ha : Val ta σ H (.str m)) (h : ValA tr σ H vs) (hr : ∀ Q : VK, Q v H → r (.str m) vs H Q) : Val (tBM K "str" r ta tr) σ H v := fun Q q => ha _ ⟨rfl, h _ (hr Q q)⟩
theorem vl_find {m n : Str} (ha : Val ta σ H (.str m)) (h : ValA tr σ H [.str n]) : Val (tBM K "str" (fun x xs H Q => ∃ a b, x = .str a ∧ xs = [.str b] ∧ Q (.int (Txt.find a b)) H) ta tr) σ H (.int (Txt.find m n)) :=
  vl_bmS ha h fun _ q => ⟨m, n, rfl, rfl, q⟩
/-- a def that only tells a value -/
theorem vl_call {sp : Sp} {E : XK} (h : ValA tr σ H vs) (hs : ∀ Q : VK, Q v H → sp vs H Q E) : Val (tCall sp [] E tr) σ H v := fun Q q => h _ (by rw [List.append_nil]; exact hs Q q)

/-! ### tests -/
theorem an_test (h : Val te σ H (.bl b)) : Ans (tTest te) σ H b := fun _ q => h _ ⟨b, rfl, q⟩
theorem an_B (h : Val te σ H (.bl b)) : Ans (tB te) σ H b := fun _ q => h _ ⟨b, rfl, q⟩
theorem an_and (h1 : Ans t σ H b) (h2 : b = true → Ans u σ H c) : Ans (tAnd t u) σ H (b && c) := fun Q q => h1 _ (by
  cases b with
  | true => exact h2 rfl Q q
  | false => exact q)
theorem an_or (h1 : Ans t σ H b) (h2 : b = false → Ans u σ H c) : Ans (tOr t u) σ H (b || c) := fun Q q => h1 _ (by
  cases b with
  | false => exact h2 rfl Q q
  | true => exact q)
theorem an_not (h : Ans t σ H b) : Ans (tNot t) σ H (!b) := fun _ q => h _ q
theorem an_is (h : Ans t σ H b) (e : b = c) : Ans t σ H c := e ▸ h
theorem an_true (h : Val ta σ H x) (ht : TruV K x H b) : Ans (fun σ H Q => ta σ H fun x H' => ∃ k, TruV K x H' k ∧ Q k H') σ H b := fun _ q => h _ ⟨b, ht, q⟩
end
/-! ### statements -/
section
variable {σ : St} {H : Hp} {i j : Nat} {v x y z : V} {ta tb te : TE} {b : Bool} {K : PySem.W.Frag} {a C dx : Addr} {fs : List (Str × V)} {f : Str} {t : TT} {t1 t2 : TS} {D : Ends} {tr : TA}
theorem st_if2 (h : Ans t σ H b) (h1 : b = true → t1 D σ H) (h2 : b = false → t2 D σ H) : tIfS t t1 t2 D σ H := h _ (by
  cases b with
  | true => exact h1 rfl
  | false => exact h2 rfl)
theorem st_par (h : ValA tr σ H [x, y]) (q : D.nx ((σ.set i (some x)).set j (some y)) H) : tPar i j tr D σ H := h _ ⟨x, y, rfl, q⟩
theorem st_augI {g : Int → Int → Int} {m n : Int} (hx : σ[i]? = some (some (.int m))) (h : Val te σ H (.int n)) (q : D.nx (σ.set i (some (.int (g m n)))) H) : tAug i te (ipI g) D σ H := ⟨_, hx, h _ ⟨m, n, rfl, rfl, q⟩⟩
end
end L2
set_option Elab.async false
set_option linter.all false
set_option maxRecDepth 100000
set_option maxHeartbeats 4000000
/-! for i, c in enumerate(text) -/
namespace L2
open PySem PySem.Spec PyProof.Rows
def ItES (x : Str) : It :=
  ⟨fun i _ => i < x.cps.size, fun i H v H' => ∃ T c, v = .ref T ∧ H T = none ∧ H' = upd H T (.tup [.int (i : Nat), .str ⟨#[c]⟩]) ∧ x.cps[i]? = some c, fun i _ => i = x.cps.size⟩
theorem turn_enumS {P : Program} {w : World} {K : PySem.W.Frag} {elts : List Expr} {kk : Nat} {tpos : Pos} (x : Str) (t : Tok) (e it : Addr) :
    Turn P w K (.Tuple elts kk tpos) (ItES x) [e, it] e (fun i h => (∃ old, IsEnum h e it ((i : Nat) : Int) old) ∧ h.IsStrIter it (strIterType x) x t i ∧ e ≠ it) where
  mem := by simp
  obj := fun i h st b hb => by
    obtain ⟨⟨old, he⟩, ⟨o, ho, hc, hd⟩, _⟩ := st
    rcases List.mem_cons.mp hb with z | z
    · rw [z]; exact ⟨_, he, fun v q => nomatch q⟩
    · rw [List.mem_singleton.mp z]
      exact ⟨o, ho, fun v q => by rw [hd] at q; cases q⟩
  keep := fun i h h' ⟨⟨old, he⟩, ⟨o, ho, r⟩, hne⟩ k => ⟨⟨old, k e (by simp) _ he⟩, ⟨o, k it (by simp) o ho, r⟩, hne⟩
  item := by
    intro X p1 p2 p3 hc i pins s σ H E I hf st hg
    subst p1 p2 p3
    obtain ⟨⟨old, he⟩, hit, hne⟩ := st
    have lt_e := Heap.lt_size he
    have lt_i : it < s.heap.objs.size := let ⟨_, z, _⟩ := hit; Heap.lt_size z
    have hh : X.A.in1.handled = none := I.ok.hd hc
    refine wpAny_pyNext_enum_itemD (Draws.text (A := X.A.in1) hh it x t) he hit hg hne (by simpa using hne) fun v h' tk hv ho hit' hT hz hk => ?_
    obtain ⟨c, u, hcx, ev⟩ := hv
    subst ev
    refine ⟨_, rfl, wpAny_letOwnedTupleGo_enum (s := { s with heap := h', toks := tk + 1 }) ho fun h2 he2 sb => ?_⟩
    have kept : ∀ b ob, b ∉ [e, it] → s.heap.get? b = some ob → h2.get? b = some ob := fun b ob hb y => by
      have b1 : b ≠ e := fun z => hb (z ▸ List.mem_cons_self)
      have b2 : b ≠ it := fun z => hb (z ▸ List.mem_cons_of_mem _ List.mem_cons_self)
      exact (sb.2 b b1).trans (hk b ob b1 b2 y)
    have tup : h2.get? s.heap.objs.size = some { cls := .type "tuple", data := .seq #[.int i tk, .str ⟨#[c]⟩ u] } := (sb.2 _ (Nat.ne_of_gt lt_e)).trans hT
    have fresh := I.hok.fresh (Nat.le_refl s.heap.objs.size)
    have J := I.turnedNew (ob := .tup [.int (i : Nat), .str ⟨#[c]⟩]) (t' := tk + 1) kept hf (Nat.le_refl _) ⟨by show 2 ≤ sizeLine; decide, [.int i tk, .str ⟨#[c]⟩ u], .cons ⟨_, rfl⟩ (.cons ⟨_, rfl⟩ .nil), ⟨_, tup, rfl, _, rfl⟩⟩
    refine ⟨.ref s.heap.objs.size, _, J, rfl, ⟨_, c, rfl, fresh, rfl, hcx⟩, ⟨⟨_, by rw [Int.natCast_succ]; exact he2⟩, ?_, hne⟩, fun b hb => ?_⟩
    · obtain ⟨o, z, r⟩ := hit'
      exact ⟨o, (sb.2 it (Ne.symm hne)).trans z, r⟩
    · have lb : b < s.heap.objs.size := by
        rcases List.mem_cons.mp hb with z | z
        · rw [z]; exact lt_e
        · rw [List.mem_singleton.mp z]; exact lt_i
      rw [upd_ne (Nat.ne_of_lt lb)]
      exact (hf b hb).1
  done := by
    intro X p1 p2 p3 hc i pins s σ H E I hf st hg
    subst p1 p2 p3
    obtain ⟨⟨old, he⟩, hit, hne⟩ := st
    have hh : X.A.in1.handled = none := I.ok.hd hc
    obtain ⟨f0, f1, f2, f3, f4, f5⟩ := hf it (by simp)
    have en : i = x.cps.size := hg
    subst en
    exact wpAny_pyNext_enum_endD (Draws.text (A := X.A.in1) hh it x t) he hit fun h2 hx => ⟨rfl, I.turned (t' := s.toks) (fun b o hb y => hx b o hb y) f0 f1 f3 f4 f5⟩
  self := fun _ _ _ _ _ st q => let ⟨⟨_, e1⟩, _⟩ := st; wpAny_pyIter_enum e1 q
def iEnumS (ta : TA) : TI := fun σ H R => ta σ H fun vs H1 => ∃ x, vs = [.str x] ∧ R (ItES x) H1
theorem pi_enumS {X : Cx} {e : Expr} {ta : TA} {p pos tpos : Pos} {elts : List Expr} {kk : Nat} (hg : Gl X "enumerate") (hm : X.mg "enumerate" = none) (ha : PA X [e] ta)
    (one : starEach [e] X.env = [(false, eval e X.env)] := by rfl) : PI X (.Tuple elts kk tpos) (.Call (.Name "enumerate" p) [e] [] pos) (iEnumS ta) := by
  refine ⟨fun pins s σ H R I h => Call_ (ld_blt I hg hm boot_enumerate (PyProof.Rows.callWith_type1 (thn (ha.run pos pins s σ H _ I h) fun us s1 hs => ?_) one rfl))⟩
  obtain ⟨vs, H1, I1, r1, x, ex, q⟩ := hs
  subst ex
  obtain ⟨u, eu, t, et⟩ := vals1 r1
  subst eu
  subst et
  refine call_enumerate_str fun h' he hit hz hk => wpAny_pyIter_enum he ⟨s1.heap.objs.size + 1, [s1.heap.objs.size + 1, s1.heap.objs.size], _, _, H1, rfl, I1.kept (t' := s1.toks) hk,
    turn_enumS x t (s1.heap.objs.size + 1) s1.heap.objs.size, ⟨⟨.none, he⟩, hit, Nat.succ_ne_self _⟩, fun b hb => ?_, q⟩
  have le : s1.heap.objs.size ≤ b := by
    rcases List.mem_cons.mp hb with z | z
    · exact z ▸ Nat.le_succ _
    · exact Nat.le_of_eq (List.mem_singleton.mp z).symm
  exact I1.fpOk le (I1.hok.fresh le)
/-- the loop, by a word of the turn -/
theorem for_enumS {x : Str} {g : TG} {tb : TS} {D : Ends} {σ : St} {H : Hp} (Pv : Nat → St → Hp → Prop) (h0 : Pv 0 σ H)
    (hs : ∀ i c σ H T, x.cps[i]? = some c → Pv i σ H → H T = none → g (.ref T) σ (upd H T (.tup [.int (i : Nat), .str ⟨#[c]⟩])) fun σ2 H2 => tb { D with nx := Pv (i + 1), ct := Pv (i + 1), bk := D.nx } σ2 H2)
    (hd : ∀ σ H, Pv x.cps.size σ H → D.nx σ H) :
    ∃ W : Nat → Nat → St → Hp → Prop, (∃ m, W 0 m σ H) ∧ ∀ i m σ H, W i m σ H → ((ItES x).stop i H ∧ D.nx σ H) ∨
      ((ItES x).go i H ∧ ∃ N : St → Hp → Prop, (∀ σ' H', N σ' H' → ∃ m', m' < m ∧ W (i + 1) m' σ' H') ∧ ∀ v H', (ItES x).yld i H v H' → g v σ H' fun σ2 H2 => tb { D with nx := N, ct := N, bk := D.nx } σ2 H2) := by
  refine ⟨fun i m σ H => m = x.cps.size - i ∧ i ≤ x.cps.size ∧ Pv i σ H, ⟨_, rfl, Nat.zero_le _, h0⟩, fun i m σ H w => ?_⟩
  obtain ⟨em, hi, p⟩ := w
  by_cases hlt : i < x.cps.size
  · refine .inr ⟨hlt, Pv (i + 1), fun σ' H' p' => ⟨_, ?_, rfl, hlt, p'⟩, fun v H' y => ?_⟩
    · omega
    · obtain ⟨T, c, ev, hT, eH, hc⟩ := y
      subst ev eH
      exact hs i c σ H T hc p hT
  · have e : i = x.cps.size := by omega
    exact .inl ⟨e, hd σ H (e ▸ p)⟩
end L2
set_option Elab.async false
set_option linter.all false
set_option maxRecDepth 100000
set_option maxHeartbeats 4000000
/-! rules for values, and readings that leave what is known (the words of Evl), for laws over lists of octets -/
namespace L2
open PySem PySem.Spec PyProof.Rows
/-! ### text times int -/
def repS (x : Str) (n : Nat) : Str := ⟨(List.replicate n x.cps).foldl (· ++ ·) #[]⟩
theorem foldl_app (l : List (Array Nat)) : ∀ a : Array Nat, (l.foldl (· ++ ·) a).toList = a.toList ++ (l.map Array.toList).flatten := by
  induction l with
  | nil => intro a; simp
  | cons b l ih =>
    intro a
    show (l.foldl (· ++ ·) (a ++ b)).toList = _
    rw [ih]
    simp
theorem repS_cps (x : Str) (n : Nat) : (repS x n).cps.toList = (List.replicate n x.cps.toList).flatten := by
  unfold repS
  rw [foldl_app]
  simp
def rMulS : R2 := fun x y H Q => ∃ (i : Str) (k : Int), x = .str i ∧ y = .int k ∧ 1 ≤ k ∧ k < 100000 ∧ i.length ≤ 100 ∧ Q (.str (repS i k.toNat)) H
theorem repS_len (x : Str) (n : Nat) : (repS x n).length = n * x.length := by
  show (repS x n).cps.size = _
  rw [← Array.length_toList, repS_cps, List.length_flatten]
  simp
  rfl
theorem op_mul_str {X : Cx} : OpR X (binaryOp .Mult) rMulS := by
  intro pins s σ H x y v u Q I rx ry h
  obtain ⟨i, k, rfl, rfl, h1, h2, hl, q⟩ := h
  obtain ⟨t, rfl⟩ := rx
  obtain ⟨t', rfl⟩ := ry
  have hz : sizeLine = 16777216 := sizeLine_eq
  have hk : k.toNat < 100000 := by omega
  refine PySem.P.mul_str (by
    rw [decide_eq_false (by omega), decide_eq_false (by omega)] <;> rfl) (fun _ _ => ?_) (fun _ _ => ?_) ?_
  · have : (2 ^ 63 - 1 : Int) / k ≥ 100 := by
      refine (Int.le_ediv_iff_mul_le (by omega)).mpr ?_
      omega
    omega
  · have : i.length * k.toNat ≤ 100 * 100000 := Nat.mul_le_mul hl (Nat.le_of_lt hk)
    exact decide_eq_false (by rw [hz]; omega)
  · rw [if_neg (by omega)]
    by_cases e : (k == 1 || i.length == 0) = true
    · rw [if_pos e]
      have er : repS i k.toNat = i := by
        have : (repS i k.toNat).cps.toList = i.cps.toList := by
          rw [repS_cps]
          rw [Bool.or_eq_true] at e
          rcases e with e | e
          · have : k = 1 := by simpa using e
            subst this
            simp
          · have : i.length = 0 := by simpa using e
            have e0 : i.cps.toList = [] := List.eq_nil_of_length_eq_zero (by rw [Array.length_toList]; exact this)
            rw [e0]
            simp
        have e2 := Array.toList_inj.mp this
        cases i
        cases hh : repS _ k.toNat
        rw [hh] at e2
        simpa using e2
      rw [er] at q
      exact ⟨.str i, H, I, ⟨_, rfl⟩, q⟩
    · rw [if_neg e]
      have hle : (repS i k.toNat).length ≤ sizeLine := by
        rw [repS_len, hz]
        have : k.toNat * i.length ≤ 100000 * 100 := Nat.mul_le_mul (Nat.le_of_lt hk) hl
        omega
      exact ⟨hle, .str (repS i k.toNat), H, I.tok _, ⟨_, rfl⟩, q⟩
theorem call_len_seqK {X : Cx} {K : PySem.W.Frag} (h : X.K = K) : CallR X (.builtin "len") (fun xs H Q => ∃ p ys, xs = [.ref p] ∧ (SqL K H p ys ∨ SqT K H p ys) ∧ Q (.int ys.length) H) := h ▸ call_len_seq
theorem ip_ext {X : Cx} : PIp X .Add rExt2 := iop_ext

/-! ### min, sorted of data -/
/-- min(xs), data that are alike: the least item as it stands -/
def rMinD (K : PySem.W.Frag) : List V → Hp → VK → Prop := fun xs H Q => ∃ (a : Addr) (vs : List V) (d : PyData) (ds : List PyData), xs = [.ref a] ∧ SqL K H a vs ∧ DpAll K H vs (d :: ds) ∧ PySem.W.AlikeAll (d :: ds) ∧ PyData.depthAll (d :: ds) ≤ 30 ∧
  ∀ (i : Nat) (v : V), vs[i]? = some v → (d :: ds)[i]? = some (PySem.W.minD d ds) → Q v H
theorem DpAll.at {K : PySem.W.Frag} {H : Hp} : ∀ {vs : List V} {ds : List PyData}, DpAll K H vs ds → ∀ (i : Nat) (v : V), vs[i]? = some v → ∃ d, ds[i]? = some d ∧ Dp K H v d
  | _, _, .nil, _, _, h => by simp at h
  | _, _, .cons r t, 0, v, h => by
    simp at h
    subst h
    exact ⟨_, rfl, r⟩
  | _, _, .cons r t, i + 1, v, h => by
    obtain ⟨d, e, q⟩ := DpAll.at t i v (by simpa using h)
    exact ⟨d, by simpa using e, q⟩
theorem vals_back : ∀ {xs : List V} {us : List Value} {i : Nat} {u : Value}, Vals xs us → us[i]? = some u → ∃ x, xs[i]? = some x ∧ RelV x u
  | _, _, _, _, .nil, e => by simp at e
  | _, _, 0, _, .cons r _, e => by simp at e; subst e; exact ⟨_, rfl, r⟩
  | _, _, i + 1, u, .cons _ t, e => by
    obtain ⟨x, h1, h2⟩ := vals_back (i := i) (u := u) t (by simpa using e)
    exact ⟨x, by simpa using h1, h2⟩
theorem cr_minD {X : Cx} (hc : X.calm = true) (hu : X.A.units + 64 < cLine) : CallR X (.builtin "min") (rMinD X.K) := by
  intro pins s σ H xs us Q I r h
  obtain ⟨a, vs, d, ds, rfl, hs, hd, ha, hz, q⟩ := h
  obtain ⟨u, rfl, ru⟩ := vals1 r
  cases ru
  obtain ⟨its, rv, pl, _⟩ := I.list hs
  obtain ⟨as, hr⟩ := Dp.readsAll I (d :: ds) vs its hd rv
  refine PySem.W.min_list_data (I.ok.hd hc) pl.isList (by simpa using hr) ha (by omega) fun i v h' tk bs hv hb hk => ?_
  have hv' : its[i]? = some v := by simpa using hv
  obtain ⟨x, hx, rx⟩ := vals_back rv hv'
  obtain ⟨e, he, de⟩ := DpAll.at hd i x hx
  obtain ⟨cs, hcs⟩ := Dp.reads I e x v de rx
  have ee : e = PySem.W.minD d ds := (PySem.Reads.unique (PyProof.Rows.Reads.keeps hk hcs) _ _ hb).1
  rw [ee] at he
  exact ⟨x, H, I.kept hk, rx, q i x hx he⟩
/-- sorted(xs), data that are alike: a new list of the items as they stand -/
def rSortD (K : PySem.W.Frag) : List V → Hp → VK → Prop := fun xs H Q => ∃ (a : Addr) (bs : List (V × PyData)), xs = [.ref a] ∧ SqL K H a (bs.map (·.1)) ∧ DpAll K H (bs.map (·.1)) (bs.map (·.2)) ∧ PySem.W.AllAlike (bs.map (·.2)) ∧ PySem.W.Sortable (bs.map (·.2)) ∧
  (∀ b ∈ bs, b.2.depth ≤ 30) ∧ ∀ p, H p = none → Q (.ref p) (upd H p (.lst ((bs.mergeSort (PySem.W.dataLe false (·.2))).map (·.1))))
theorem each_of {P : V → Value → Prop} : ∀ {bs : List (V × PyData)} {its : List Value}, Paired P (bs.map (·.1)) its → PySem.W.EachIs (fun v (b : V × PyData) => P b.1 v) its bs
  | [], _, r => by cases r; exact .nil
  | b :: bs, _, r => by
    cases r with
    | cons h t => exact .cons h (each_of t)
theorem of_each {P : V → Value → Prop} : ∀ {bs : List (V × PyData)} {its : List Value}, PySem.W.EachIs (fun v (b : V × PyData) => P b.1 v) its bs → Paired P (bs.map (·.1)) its
  | [], _, r => by cases r; exact .nil
  | b :: bs, _, r => by
    cases r with
    | cons h t => exact .cons h (of_each t)
theorem each_reads {X : Cx} {pins : List (Addr × Obj)} {σ : St} {H : Hp} {s : Shared} (I : Inv X pins σ H s) : ∀ {bs : List (V × PyData)} {its : List Value}, Vals (bs.map (·.1)) its → DpAll X.K H (bs.map (·.1)) (bs.map (·.2)) →
    PySem.W.EachIs (fun v (b : V × PyData) => ∃ as, Reads s.heap v b.2 as) its bs
  | [], _, r, _ => by cases r; exact .nil
  | b :: bs, _, r, d => by
    cases r with
    | cons h t =>
      cases d with
      | cons d1 d2 => exact .cons (Dp.reads I b.2 b.1 _ d1 h) (each_reads I t d2)
theorem cr_sortD {X : Cx} (hu : X.A.units + 64 < cLine) : CallR X (.builtin "sorted") (rSortD X.K) := by
  intro pins s σ H xs us Q I r h
  obtain ⟨a, bs, rfl, hs, hd, ha, hk, hz, q⟩ := h
  obtain ⟨u, rfl, ru⟩ := vals1 r
  cases ru
  obtain ⟨its, rv, pl, hle⟩ := I.list hs
  have hle' : bs.length ≤ sizeLine := by rw [List.length_map] at hle; exact hle
  refine PySem.W.sorted_data (vs := its) (bs := bs) (enc := (·.2)) (R := fun v b => RelV b.1 v) pl.isList (each_of rv) (each_reads I rv hd) ha hk hle' (fun b hb => by have := hz b hb; omega) fun out ho he => ?_
  obtain ⟨ep, he'⟩ := PyProof.Rows.sortedAll_at s.heap its out.toArray
  have rv' : Vals ((bs.mergeSort (PySem.W.dataLe false (·.2))).map (·.1)) out := of_each he
  exact ⟨.ref _, _, I.laid (a := s.heap.objs.size + 1) (o := .lst ((bs.mergeSort (PySem.W.dataLe false (·.2))).map (·.1))) (t' := s.toks) (fun _ _ => PyProof.Rows.sortedAll_old) (Nat.le_succ _) ⟨by rw [List.length_map, List.length_mergeSort]; exact hle', out, ep, rv', he'⟩, rfl, q _ (I.hok.fresh (Nat.le_succ _))⟩
end L2

namespace Evl
open PySem L2
section
variable {K : PySem.W.Frag} {σ : L2.St} {H H' : Hp} {ta tb te tx : TE} {t u : TT} {x y z v : V} {r : R2}
theorem ev_fld {a C dx : Addr} {fs : List (Str × V)} {f : Str} (h : Ev ta σ H (.ref a)) (ho : H a = some (.ins C dx fs)) (hc : Cls K C) (hn : NoAttr K C f) (hl : fs.lookup f = some v) : Ev (tFld K ta f) σ H v := fun H1 e Q q =>
  h H1 e _ fun H2 e2 => ⟨a, C, dx, fs, v, rfl, e2 a _ (e a _ ho), hc, hn, hl, q H2 e2⟩
theorem ev_dget {a : Addr} {kvs : List (Key × V)} {k : Key} (h : Ev ta σ H (.ref a)) (hk : Ev tb σ H (kV k)) (ho : H a = some (.dK kvs)) (hl : valV kvs k = some v) : Ev (tDGet ta tb) σ H v := fun H1 e Q q =>
  h H1 e _ fun H2 e2 => hk H2 (e.trans e2) _ fun H3 e3 => ⟨a, v, rfl, hl ▸ DGet.k (e3 a _ (e2 a _ (e a _ ho))), q H3 (e2.trans e3)⟩
theorem ev_str {m n : Str} (ha : Ev ta σ H (.str m)) (hb : Ev tb σ H (.str n)) (h : m.length + n.length ≤ 100000) :
    Ev (tOp (fun x y H Q => ∃ i j, x = .str i ∧ y = .str j ∧ i.length + j.length ≤ sizeLine ∧ Q (.str (i ++ j)) H) ta tb) σ H (.str (m ++ n)) :=
  ev_op ha hb fun H1 _ _ q => ⟨m, n, rfl, rfl, sz_of h, q H1 (Ex.refl H1)⟩
theorem ev_mulS {m : Str} {k : Int} (ha : Ev ta σ H (.str m)) (hb : Ev tb σ H (.int k)) (h1 : 1 ≤ k) (h2 : k < 100000) (h3 : m.length ≤ 100) : Ev (tOp rMulS ta tb) σ H (.str (repS m k.toNat)) :=
  ev_op ha hb fun H1 _ _ q => ⟨m, k, rfl, rfl, h1, h2, h3, q H1 (Ex.refl H1)⟩
theorem ev_cbV {rc : List V → Hp → VK → Prop} {tr : TA} {vs : List V} (h : EvA tr σ H vs) (hr : ∀ H1, Ex H H1 → ∀ Q : VK, Q z H1 → rc vs H1 Q) : Ev (tCB rc tr) σ H z := ev_cb h fun H1 e Q q => hr H1 e Q (q H1 (Ex.refl H1))
theorem el_cat {xs ys : List V} (ha : EvL ta σ H xs) (hb : EvL tb σ H ys) (hz : xs.length + ys.length ≤ 100000) : EvL (tOp rCat ta tb) σ H (xs ++ ys) := fun H1 e Q q =>
  ha H1 e _ fun p H2 _ e2 h2 => hb H2 (e.trans e2) _ fun p' H3 _ e3 h3 => ⟨p, p', xs, ys, rfl, rfl, e3 p _ h2, h3, sz_of hz, fun l hl => q l _ (fresh_back (e2.trans e3) hl) ((e2.trans e3).trans (Ex.new hl)) upd_same⟩
/-- a known list ahead -/
theorem el_catV {a : Addr} {xs ys : List V} (ha : Ev ta σ H (.ref a)) (ho : H a = some (.lst xs)) (hb : EvL tb σ H ys) (hz : xs.length + ys.length ≤ 100000) : EvL (tOp rCat ta tb) σ H (xs ++ ys) := fun H1 e Q q =>
  ha H1 e _ fun H2 e2 => hb H2 (e.trans e2) _ fun p' H3 _ e3 h3 => ⟨a, p', xs, ys, rfl, rfl, e3 a _ (e2 a _ (e a _ ho)), h3, sz_of hz, fun l hl => q l _ (fresh_back (e2.trans e3) hl) ((e2.trans e3).trans (Ex.new hl)) upd_same⟩
theorem el_rep {xs : List V} {k : Int} (ha : EvL ta σ H xs) (hb : ∀ H1, Ex H H1 → Ev tb σ H1 (.int k)) (h1 : 0 ≤ k) (h2 : k < 100000) (hz : xs.length * k.toNat ≤ 100000) : EvL (tOp rRep ta tb) σ H (List.replicate k.toNat xs).flatten := fun H1 e Q q =>
  ha H1 e _ fun p H2 _ e2 h => hb H2 (e.trans e2) H2 (Ex.refl H2) _ fun H3 e3 => ⟨p, k, xs, rfl, rfl, e3 p _ h, by omega, by omega, sz_of hz, fun l hl => q l _ (fresh_back (e2.trans e3) hl) ((e2.trans e3).trans (Ex.new hl)) upd_same⟩
theorem ea_starL {tr : TA} {xs vs : List V} (ha : EvL te σ H xs) (hr : EvA tr σ H vs) : EvA (StX.tStar K te tr) σ H (xs ++ vs) := fun H1 e Q q =>
  ha H1 e _ fun p H2 _ e2 h => ⟨p, xs, rfl, Or.inr (sq_of h), hr H2 (e.trans e2) _ fun H3 e3 => q H3 (e2.trans e3)⟩
theorem ev_if2 {b : Bool} {w : V} (h : EvT t σ H b) (h1 : b = true → Ev ta σ H v) (h2 : b = false → Ev tb σ H w) : Ev (tIf t ta tb) σ H (if b = true then v else w) := by
  cases b with
  | true => exact ev_if h h1 (fun q => by cases q)
  | false => exact ev_if h (fun q => by cases q) h2
theorem ev_chainEq {tc : TE} {x y z : V} (ha : Ev ta σ H x) (hb : Ev tb σ H y) (hc : Ev tc σ H z) (h1 : scal x y = true) (h2 : scal y z = true) : Ev (tChain rEq rEq ta tb tc) σ H (.bl (decide (x = y) && decide (y = z))) := fun H1 e Q q =>
  ha H1 e _ fun H2 e2 => hb H2 (e.trans e2) _ fun H3 e3 => ⟨h1, decide (x = y), rfl, by
    by_cases hxy : x = y
    · rw [decide_eq_true hxy] at q ⊢
      exact hc H3 ((e.trans e2).trans e3) _ fun H4 e4 => ⟨h2, q H4 ((e2.trans e3).trans e4)⟩
    · rw [decide_eq_false hxy] at q ⊢
      exact q H3 (e2.trans e3)⟩
theorem g2 {i j n : Nat} {a : Addr} {x y : V} {Q : L2.St → Hp → Prop} (h : SqT K H a [x, y]) (q : Q ((σ.set i (some x)).set j (some y)) H) (hn : 2 = n := by rfl) : gTup K n (gCons (gName i) (gCons (gName j) gNil)) (.ref a) σ H Q :=
  ⟨a, _, rfl, h, hn, _, _, rfl, _, _, rfl, rfl, q⟩
theorem el_is {xs ys : List V} (h : EvL te σ H xs) (e : xs = ys) : EvL te σ H ys := e ▸ h
theorem q_asgE {i : Nat} {P : V → Prop} {D : Ends} {tz : TS} (h : ∃ v, P v ∧ Ev te σ H v) (k : ∀ v, P v → ∀ H1, Ex H H1 → tz D (σ.set i (some v)) H1) : tSeq (tAsg te (gName i)) tz D σ H :=
  let ⟨v, p, e⟩ := h
  e H (Ex.refl H) _ fun H1 e1 => k v p H1 e1
theorem ex_if {P : V → Prop} {b : Bool} (h : EvT t σ H b) (h1 : b = true → ∃ v, P v ∧ Ev ta σ H v) (h2 : b = false → ∃ v, P v ∧ Ev tb σ H v) : ∃ v, P v ∧ Ev (tIf t ta tb) σ H v := by
  cases b with
  | true =>
    obtain ⟨v, p, e⟩ := h1 rfl
    exact ⟨v, p, ev_if h (fun _ => e) fun q => by cases q⟩
  | false =>
    obtain ⟨v, p, e⟩ := h2 rfl
    exact ⟨v, p, ev_if h (fun q => by cases q) fun _ => e⟩
theorem v_setL {l : Addr} {xs : List V} {j : Nat} {D : Ends} {tz : TS} (h : Val te σ H v) (ho : Val ta σ H (.ref l)) (hi : Val tb σ H (.int (j : Int))) (hl : H l = some (.lst xs)) (hj : j < xs.length) (k : tz D σ (upd H l (.lst (xs.set j v)))) :
    tSeq (tAsg te (gSub ta tb rSetL)) tz D σ H := h _ (ho _ (hi _ ⟨l, xs, (j : Int), j, rfl, rfl, hl, ixN_nat hj, k⟩))
theorem v_ret {D : Ends} (h : Val te σ H v) (k : D.rt v H) : tRet te D σ H := h _ k
theorem v_test {b : Bool} (h : Val te σ H (.bl b)) : Ans (tTest te) σ H b := an_test h
/-! one step of a reading, as it stands -/
theorem k_ret {D : Ends} (h : te σ H D.rt) : tRet te D σ H := h
theorem k_opc {Q : VK} (h : ta σ H fun x H1 => r x v H1 Q) : tOp r ta (tC v) σ H Q := h
theorem k_cb1 {rc : List V → Hp → VK → Prop} {Q : VK} (h : te σ H fun x H1 => rc [x] H1 Q) : tCB rc (tCons te tNil) σ H Q := h
theorem k_asg {i : Nat} {D : Ends} {tz : TS} (h : te σ H fun x H1 => tz D (σ.set i (some x)) H1) : tSeq (tAsg te (gName i)) tz D σ H := h
theorem k_call1 {sp : Sp} {E : XK} {Q : VK} (h : Ev te σ H x) (k : ∀ H1, Ex H H1 → sp [x] H1 Q E) : tCall sp [] E (tCons te tNil) σ H Q := h H (Ex.refl H) _ fun H1 e => k H1 e
theorem k_call2 {sp : Sp} {E : XK} {Q : VK} (h : Ev ta σ H x) (h2 : Ev tb σ H y) (k : ∀ H1, Ex H H1 → sp [x, y] H1 Q E) : tCall sp [] E (tCons ta (tCons tb tNil)) σ H Q := h H (Ex.refl H) _ fun H1 e => h2 H1 e _ fun H2 e2 => k H2 (e.trans e2)
theorem k_retop {rr : R2} {D : Ends} (h : ta σ H fun x H1 => tb σ H1 fun y H2 => rr x y H2 D.rt) : tRet (tOp rr ta tb) D σ H := h
theorem k_val {Q : VK} (h : Val te σ H v) (k : Q v H) : te σ H Q := h Q k
theorem k_call2v {sp : Sp} {E : XK} {Q : VK} (h : Val ta σ H x) (h2 : Val tb σ H y) (k : sp [x, y] H Q E) : tCall sp [] E (tCons ta (tCons tb tNil)) σ H Q := h _ (h2 _ k)
theorem k_asgc {i : Nat} {D : Ends} {tz : TS} (h : te σ H fun x H1 => tz D (σ.set i (some x)) H1) : tSeq (tAsg te (gName i)) tz D σ H := h
theorem k_name {i : Nat} {Q : L2.St → Hp → Prop} (h : Q (σ.set i (some v)) H) : gName i v σ H Q := h
theorem v_set {i : Nat} {D : Ends} {tz : TS} (h : Val te σ H v) (k : tz D (σ.set i (some v)) H) : tSeq (tAsg te (gName i)) tz D σ H := h _ k
theorem v_if {D : Ends} {tu tw tz : TS} {b : Bool} (h : Ans t σ H b) (h1 : b = true → tu { D with nx := tz D } σ H) (h2 : b = false → tw { D with nx := tz D } σ H) : tSeq (tIfS t tu tw) tz D σ H := st_if2 (D := { D with nx := tz D }) h h1 h2
/-- an if without an else -/
theorem v_when {D : Ends} {tu tz : TS} {b : Bool} (h : Ans t σ H b) (h1 : b = true → tu { D with nx := tz D } σ H) (h2 : b = false → tz D σ H) : tSeq (tIfS t tu tNext) tz D σ H := st_if2 (D := { D with nx := tz D }) h h1 h2
theorem q_fld {a C dx : Addr} {fs fs' : List (Str × V)} {f : Str} {D : Ends} {tz : TS} (hv : Ev tb σ H y) (ha : Ev ta σ H (.ref a)) (ho : H a = some (.ins C dx fs)) (hc : Cls K C) (hn : NoAttr K C f) (k : ∀ H1, Ex H H1 → tz D σ (upd H1 a (.ins C dx fs')))
    (hp : putF f y fs = fs' := by kernel_rfl) (hz : fs.length ≤ 900 := by decide) : tSeq (sFld K ta tb f) tz D σ H := hv H (Ex.refl H) _ fun H1 e1 => ha H1 e1 _ fun H2 e2 => ⟨a, C, dx, fs, rfl, e2 a _ (e1 a _ ho), hc, hn, by omega, by rw [hp]; exact k H2 (e1.trans e2)⟩
theorem v_par {i j : Nat} {D : Ends} {tr : TA} {tz : TS} (h : EvA tr σ H [x, y]) (k : ∀ H1, Ex H H1 → tz D ((σ.set i (some x)).set j (some y)) H1) : tSeq (tPar i j tr) tz D σ H := h H (Ex.refl H) _ fun H1 e => ⟨x, y, rfl, k H1 e⟩
theorem v_par3 {i j l : Nat} {D : Ends} {tr : TA} {tz : TS} (h : EvA tr σ H [x, y, z]) (k : ∀ H1, Ex H H1 → tz D (((σ.set i (some x)).set j (some y)).set l (some z)) H1) : tSeq (tPar3 i j l tr) tz D σ H := h H (Ex.refl H) _ fun H1 e => ⟨x, y, z, rfl, k H1 e⟩
theorem st_ifN {D : Ends} {tu tw : TS} {b : Bool} (h : Ans t σ H b) (h1 : b = true → tu D σ H) (h2 : b = false → tw D σ H) : tIfS t tu tw D σ H := st_if2 h h1 h2
/-! ### a list that is filled with new lists -/
def isL (H : Hp) (p : Addr) (d : List Int) : Prop := H p = some (.lst (d.map V.int))
/-- l is new since H0; it holds lists of ints, all new since H0 -/
def Fd (H0 : Hp) (l : Addr) (ds : List (List Int)) (H : Hp) : Prop := H0 l = none ∧ Ex H0 H ∧ ∃ ps : List Addr, H l = some (.lst (ps.map V.ref)) ∧ PySem.Paired (fun p d => isL H p d ∧ p ≠ l ∧ H0 p = none) ps ds
theorem Fd.start {H0 H : Hp} {l : Addr} (h0 : H0 l = none) (e : Ex H0 H) (h : H l = some (.lst [])) : Fd H0 l [] H := ⟨h0, e, [], h, .nil⟩
theorem paired_mono {α β : Type} {F G : α → β → Prop} (h : ∀ a b, F a b → G a b) : ∀ {xs : List α} {ys : List β}, PySem.Paired F xs ys → PySem.Paired G xs ys
  | _, _, .nil => .nil
  | _, _, .cons r t => .cons (h _ _ r) (paired_mono h t)
theorem Fd.ex {H0 H H1 : Hp} {l : Addr} {ds : List (List Int)} (f : Fd H0 l ds H) (e : Ex H H1) : Fd H0 l ds H1 :=
  let ⟨h0, e0, ps, hl, pr⟩ := f
  ⟨h0, e0.trans e, ps, e l _ hl, paired_mono (fun a _ r => ⟨e a _ r.1, r.2⟩) pr⟩
theorem Fd.base {H0 H1 H : Hp} {l : Addr} {ds : List (List Int)} (e : Ex H0 H1) (f : Fd H1 l ds H) : Fd H0 l ds H :=
  let ⟨h0, e0, ps, hl, pr⟩ := f
  ⟨fresh_back e h0, e.trans e0, ps, hl, paired_mono (fun a _ r => ⟨r.1, r.2.1, fresh_back e r.2.2⟩) pr⟩
theorem Fd.add {H0 H H1 : Hp} {l p : Addr} {ds : List (List Int)} {d : List Int} (f : Fd H0 l ds H) (e : Ex H H1) (hp : H p = none) (h : H1 p = some (.lst (d.map V.int))) :
    ∃ xs, H l = some (.lst xs) ∧ xs.length = ds.length ∧ Fd H0 l (ds ++ [d]) (upd H1 l (.lst (xs ++ [V.ref p]))) := by
  obtain ⟨h0, e0, ps, hl, pr⟩ := f
  have hlen : ps.length = ds.length := PySem.Paired.length pr
  have npl : p ≠ l := fun q => by rw [q, hl] at hp; cases hp
  refine ⟨_, hl, by rw [List.length_map]; exact hlen, h0, Ex.mut (e0.trans e) h0, ps ++ [p], ?_, ?_⟩
  · rw [upd_same, List.map_append] <;> rfl
  · have p1 : PySem.Paired (fun q d => isL (upd H1 l (.lst (ps.map V.ref ++ [V.ref p]))) q d ∧ q ≠ l ∧ H0 q = none) ps ds := paired_mono (fun a b r => ⟨by
      show upd H1 l _ a = _
      rw [upd_ne r.2.1]
      exact e a _ r.1, r.2⟩) pr
    refine PySem.Paired.snoc p1 ⟨?_, npl, fresh_back e0 hp⟩
    show upd H1 l _ p = _
    rw [upd_ne npl]
    exact h
/-- if c: found.append(e) -/
theorem fd_if {H0 : Hp} {l : Addr} {i : Nat} {ds : List (List Int)} {d : List Int} {b : Bool} {tz : TS} {D : Ends} (f : Fd H0 l ds H) (hv : σ[i]? = some (some (V.ref l))) (h : EvT t σ H b) (he : b = true → ∀ H1, Ex H H1 → EvL te σ H1 (d.map V.int)) {n : Nat} (hz : ds.length ≤ n)
    (k : ∀ H', Fd H0 l (ds ++ if b = true then [d] else []) H' → (ds ++ if b = true then [d] else []).length ≤ n + 1 → tz D σ H') (hn : n < 90000 := by decide) : tCut (tIfS t (tDrop (tBM K "list" rAppend (tVar i) (tCons te tNil))) tNext) tz D σ H := by
  refine ⟨fun σ' H' => σ' = σ ∧ Fd H0 l (ds ++ if b = true then [d] else []) H', ?_, fun σ' H' ⟨e, q⟩ => by
    subst e
    refine k H' q ?_
    rw [List.length_append]
    cases b <;> simp <;> omega⟩
  refine s_if h (fun hb H1 e1 => ?_) fun hb H1 e1 => ⟨rfl, ?_⟩
  · have f1 : Fd H0 l ds H1 := ⟨f.1, f.2.1.trans e1, by
      obtain ⟨ps, hl, pr⟩ := f.2.2
      exact ⟨ps, e1 l _ hl, paired_mono (fun a b r => ⟨e1 a _ r.1, r.2⟩) pr⟩⟩
    obtain ⟨ps, hl, pr⟩ := f1.2.2
    have hlen : ps.length = ds.length := PySem.Paired.length pr
    refine s_appL (l := l) hl (ev_var hv) (he hb H1 e1) (by rw [List.length_map, hlen]; omega) fun p H2 hp e2 h2 => ⟨rfl, ?_⟩
    obtain ⟨xs, hx, _, f2⟩ := f1.add e2 hp h2
    rw [hl] at hx
    cases hx
    rw [hb]
    exact f2
  · rw [hb, if_neg Bool.false_ne_true, List.append_nil]
    obtain ⟨ps, hl, pr⟩ := f.2.2
    exact ⟨f.1, f.2.1.trans e1, ps, e1 l _ hl, paired_mono (fun a b r => ⟨e1 a _ r.1, r.2⟩) pr⟩
/-! ### fields, short forms -/
theorem ev_I0 {g : Int → Int → V} {m n : Int} (ha : Ev ta σ H (.int m)) (hb : Ev tb σ H (.int n)) : Ev (tOp (rI0 g) ta tb) σ H (g m n) := ev_op ha hb rv_I0
theorem ev_ne (ha : Ev ta σ H x) (hb : Ev tb σ H y) (h : scal x y = true) : Ev (tOp rNe ta tb) σ H (.bl (!decide (x = y))) := ev_op ha hb (rv_ne h)
theorem ev_eq (ha : Ev ta σ H x) (hb : Ev tb σ H y) (h : scal x y = true) : Ev (tOp rEq ta tb) σ H (.bl (decide (x = y))) := ev_op ha hb (rv_eq h)
theorem ev_min2 {m n : Int} (ha : Ev ta σ H (.int m)) (hb : Ev tb σ H (.int n)) : Ev (tCB (fun xs H Q => ∃ i j, xs = [.int i, .int j] ∧ Q (.int (if j < i then j else i)) H) (tCons ta (tCons tb tNil))) σ H (.int (if n < m then n else m)) :=
  ev_cbV (ea_cons ha (ea_cons hb ea_nil)) fun H1 _ Q q => ⟨m, n, rfl, q⟩
theorem s_fld {a C dx : Addr} {fs fs' : List (Str × V)} {f : Str} {D : Ends} (hv : Ev tb σ H y) (ha : Ev ta σ H (.ref a)) (ho : H a = some (.ins C dx fs)) (hc : Cls K C) (hn : NoAttr K C f) (k : ∀ H1, Ex H H1 → D.nx σ (upd H1 a (.ins C dx fs')))
    (hp : putF f y fs = fs' := by kernel_rfl) (hz : fs.length ≤ 900 := by decide) : sFld K ta tb f D σ H := hv H (Ex.refl H) _ fun H1 e1 => ha H1 e1 _ fun H2 e2 => ⟨a, C, dx, fs, rfl, e2 a _ (e1 a _ ho), hc, hn, by omega, by rw [hp]; exact k H2 (e1.trans e2)⟩
/-- all but the object at a is as it was -/
def Fr (a : Addr) (H H' : Hp) : Prop := ∀ b o, b ≠ a → H b = some o → H' b = some o
theorem Fr.refl (a : Addr) (H : Hp) : Fr a H H := fun _ _ _ h => h
theorem Fr.of {a : Addr} {H H' : Hp} (e : Ex H H') : Fr a H H' := fun b o _ h => e b o h
theorem Fr.trans {a : Addr} {H H1 H2 : Hp} (x : Fr a H H1) (y : Fr a H1 H2) : Fr a H H2 := fun b o n h => y b o n (x b o n h)
theorem Fr.upd {a : Addr} {H H' : Hp} {o : HO} (x : Fr a H H') : Fr a H (L2.upd H' a o) := fun b u n h => by
  rw [upd_ne n]
  exact x b u n h
end
end Evl
set_option Elab.async false
set_option linter.all false
set_option maxRecDepth 100000
set_option maxHeartbeats 1000000
/-! the least of several lists of octets: by min of the pairs (length, list), and by the head of the sorted pairs -/
namespace Mn
open PySem PySem.W PyProof.Rows L2 Evl
def enc (d : List Int) : PyData := .tuple [.int (d.length : Nat), .list (d.map PyData.int)]
def lt (d e : List Int) : Prop := d.length < e.length ∨ (d.length = e.length ∧ d < e)
instance (d e : List Int) : Decidable (lt d e) := by unfold lt; infer_instance
theorem lt_list (d e : List Int) : dataLt (.list (d.map PyData.int)) (.list (e.map PyData.int)) = decide (d < e) := by
  have h := congrFun (congrFun (dataLe_rows (β := List Int) id) e) d
  rw [dataLe_eq] at h
  have h2 : (!dataLt (.list (d.map PyData.int)) (.list (e.map PyData.int))) = decide (e ≤ d) := h
  have h3 : dataLt (.list (d.map PyData.int)) (.list (e.map PyData.int)) = !decide (e ≤ d) := by rw [← h2, Bool.not_not]
  rw [h3, ← decide_not]
  exact decide_eq_decide.mpr List.not_le
theorem lt_int (i j : Int) : dataLt (.int i) (.int j) = decide (i < j) := by
  have h := congrFun (congrFun (dataLe_int (β := Int) id) j) i
  rw [dataLe_eq] at h
  have h2 : (!dataLt (.int i) (.int j)) = decide (j ≤ i) := h
  have h3 : dataLt (.int i) (.int j) = !decide (j ≤ i) := by rw [← h2, Bool.not_not]
  rw [h3, ← decide_not]
  exact decide_eq_decide.mpr (by omega)
theorem eqv_int (i j : Int) : PyData.eqv (.int i) (.int j) = decide (i = j) := by
  by_cases h : i = j
  · subst h
    simp [PyData.eqv]
  · simp [PyData.eqv, h]
theorem eqv_ints : ∀ d e : List Int, PyData.eqvAll (d.map PyData.int) (e.map PyData.int) = decide (d = e)
  | [], [] => by simp [PyData.eqvAll]
  | [], _ :: _ => by simp [PyData.eqvAll]
  | _ :: _, [] => by simp [PyData.eqvAll]
  | i :: d, j :: e => by
    show PyData.eqvAll (.int i :: d.map PyData.int) (.int j :: e.map PyData.int) = _
    rw [PyData.eqvAll, eqv_ints d e, eqv_int]
    by_cases h1 : i = j <;> by_cases h2 : d = e <;> simp [h1, h2]
theorem eqv_list (d e : List Int) : PyData.eqv (.list (d.map PyData.int)) (.list (e.map PyData.int)) = decide (d = e) := by
  rw [PyData.eqv, eqv_ints]
theorem enc_lt (d e : List Int) : dataLt (enc d) (enc e) = decide (lt d e) := by
  unfold enc
  rw [dataLt_pair (by simp [alike]) (by rw [alike]; exact alike_ints d e), eqv_int, lt_int, eqv_list, lt_list]
  unfold lt
  by_cases h : d.length = e.length
  · have h' : ((d.length : Nat) : Int) = ((e.length : Nat) : Int) := by omega
    rw [if_pos (by simpa using h')]
    by_cases h2 : d = e
    · subst h2
      rw [if_pos (by simp)]
      exact (decide_eq_false (by
        rintro (h | ⟨_, h⟩)
        · omega
        · exact List.lt_irrefl d h)).symm
    · rw [if_neg (by simpa using h2)]
      exact decide_eq_decide.mpr ⟨fun h3 => .inr ⟨h, h3⟩, fun h3 => by
        rcases h3 with h3 | h3
        · omega
        · exact h3.2⟩
  · have h' : ¬ ((d.length : Nat) : Int) = ((e.length : Nat) : Int) := by omega
    rw [if_neg (by simpa using h')]
    exact decide_eq_decide.mpr ⟨fun h3 => .inl (by omega), fun h3 => by
      rcases h3 with h3 | h3
      · omega
      · exact absurd h3.1 h⟩
theorem lt_anti {d e : List Int} (h1 : ¬ lt d e) (h2 : ¬ lt e d) : d = e := by
  unfold lt at *
  have hl : d.length = e.length := by
    rcases Nat.lt_trichotomy d.length e.length with h | h | h
    · exact absurd (.inl h) h1
    · exact h
    · exact absurd (.inl h) h2
  exact List.le_antisymm (List.not_lt.mp fun h => h2 (.inr ⟨hl.symm, h⟩)) (List.not_lt.mp fun h => h1 (.inr ⟨hl, h⟩))
theorem le_trans' {d e f : List Int} (h1 : ¬ lt e d) (h2 : ¬ lt f e) : ¬ lt f d := by
  unfold lt at *
  rintro (h | ⟨h, h'⟩)
  · have a : ¬ e.length < d.length := fun x => h1 (.inl x)
    have b : ¬ f.length < e.length := fun x => h2 (.inl x)
    omega
  · have a : ¬ e.length < d.length := fun x => h1 (.inl x)
    have b : ¬ f.length < e.length := fun x => h2 (.inl x)
    have c1 : e.length = d.length := by omega
    have c2 : f.length = e.length := by omega
    have l1 : d ≤ e := List.not_lt.mp fun x => h1 (.inr ⟨c1, x⟩)
    have l2 : e ≤ f := List.not_lt.mp fun x => h2 (.inr ⟨c2, x⟩)
    exact List.not_lt.mpr (List.le_trans l1 l2) h'
theorem lt_asymm {d e : List Int} (h : lt d e) : ¬ lt e d := by
  unfold lt at *
  rcases h with h | ⟨h, h'⟩
  · rintro (k | ⟨k, _⟩) <;> omega
  · rintro (k | ⟨_, k⟩)
    · omega
    · exact List.lt_irrefl d (List.lt_trans h' k)
theorem lt_self (d : List Int) : ¬ lt d d := fun h => lt_asymm h h
def best (d : List Int) (ds : List (List Int)) : List Int := ds.foldl (fun a y => if lt y a then y else a) d
theorem best_min : ∀ (ds : List (List Int)) (d : List Int), minD (enc d) (ds.map enc) = enc (best d ds)
  | [], d => rfl
  | y :: ds, d => by
    show (ds.map enc).foldl (fun a y => if dataLt y a then y else a) (if dataLt (enc y) (enc d) then enc y else enc d) = enc (ds.foldl (fun a y => if lt y a then y else a) (if lt y d then y else d))
    rw [enc_lt]
    by_cases h : lt y d
    · rw [if_pos h, decide_eq_true h, if_pos rfl]
      exact best_min ds y
    · rw [if_neg h, decide_eq_false h, if_neg Bool.false_ne_true]
      exact best_min ds d
theorem best_is : ∀ (ds : List (List Int)) (d : List Int), best d ds ∈ d :: ds ∧ ∀ x ∈ d :: ds, ¬ lt x (best d ds)
  | [], d => ⟨List.mem_cons_self, fun x hx => by
      rw [List.mem_singleton.mp hx]
      exact lt_self d⟩
  | y :: ds, d => by
    show (best (if lt y d then y else d) ds) ∈ _ ∧ ∀ x ∈ _, ¬ lt x (best (if lt y d then y else d) ds)
    by_cases h : lt y d
    · rw [if_pos h]
      obtain ⟨h1, h2⟩ := best_is ds y
      refine ⟨List.mem_cons_of_mem _ h1, fun x hx => ?_⟩
      rcases List.mem_cons.mp hx with e | hx
      · rw [e]
        exact le_trans' (h2 y List.mem_cons_self) (lt_asymm h)
      · exact h2 x hx
    · rw [if_neg h]
      obtain ⟨h1, h2⟩ := best_is ds d
      refine ⟨?_, fun x hx => ?_⟩
      · rcases List.mem_cons.mp h1 with e | e
        · rw [e]; exact List.mem_cons_self
        · exact List.mem_cons_of_mem _ (List.mem_cons_of_mem _ e)
      · rcases List.mem_cons.mp hx with e | hx
        · rw [e]; exact h2 d List.mem_cons_self
        · rcases List.mem_cons.mp hx with e | hx
          · rw [e]; exact le_trans' (h2 d List.mem_cons_self) h
          · exact h2 x (List.mem_cons_of_mem _ hx)
/-- the head of the sorted pairs is the least -/
theorem sort_head {β : Type} (k : β → List Int) {bs : List β} {b0 : β} {r : List β} {d : List Int} {ds : List (List Int)} (e : bs.map k = d :: ds) (h : bs.mergeSort (dataLe false fun b => enc (k b)) = b0 :: r) : k b0 = best d ds := by
  have le_is : ∀ a b, dataLe false (fun b => enc (k b)) a b = !decide (lt (k b) (k a)) := fun a b => by
    rw [dataLe_eq]
    show (!dataLt (enc (k b)) (enc (k a))) = _
    rw [enc_lt]
  have pw := List.pairwise_mergeSort (le := dataLe false fun b => enc (k b)) (fun a b c h1 h2 => by
    rw [le_is] at *
    simp only [Bool.not_eq_true', decide_eq_false_iff_not] at *
    exact le_trans' h1 h2) (fun a b => by
    rw [le_is, le_is]
    by_cases q : lt (k b) (k a)
    · simp [q, lt_asymm q]
    · simp [q]) bs
  have pm := List.mergeSort_perm bs (dataLe false fun b => enc (k b))
  rw [h] at pw pm
  obtain ⟨g1, g2⟩ := best_is ds d
  have hb0 : k b0 ∈ d :: ds := by
    rw [← e]
    exact List.mem_map.mpr ⟨b0, pm.mem_iff.mp List.mem_cons_self, rfl⟩
  refine lt_anti (fun q => g2 _ hb0 q) fun q => ?_
  rw [← e] at g1
  obtain ⟨b, hb, eb⟩ := List.mem_map.mp g1
  rcases List.mem_cons.mp (pm.mem_iff.mpr hb) with z | z
  · subst z
    rw [← eb] at q
    exact lt_self _ q
  · have := (List.pairwise_cons.mp pw).1 b z
    rw [le_is] at this
    simp only [Bool.not_eq_true', decide_eq_false_iff_not] at this
    rw [← eb] at q
    exact this q
theorem enc_alike (d e : List Int) : alike (enc d) (enc e) = true := by
  unfold enc
  rw [alike, alikeAll, alike, alikeAll, alike, alike_ints, alikeAll]
  rfl
theorem enc_depth (d : List Int) : (enc d).depth ≤ 5 := by
  unfold enc
  rw [PyData.depth, PyData.depthAll, PyData.depthAll, PyData.depthAll, PyData.depth, PyData.depth, depth_ints]
  decide
theorem encs_depth : ∀ ds : List (List Int), PyData.depthAll (ds.map enc) ≤ 5
  | [] => by simp [PyData.depthAll]
  | d :: ds => by
    show PyData.depthAll (enc d :: ds.map enc) ≤ 5
    rw [PyData.depthAll]
    exact Nat.max_le.mpr ⟨enc_depth d, encs_depth ds⟩
section
variable {K : PySem.W.Frag} {H : Hp}
theorem dp_ints : ∀ l : List Int, DpAll K H (l.map V.int) (l.map PyData.int)
  | [] => .nil
  | i :: l => .cons (.int i) (dp_ints l)
theorem dp_list {p : Addr} {d : List Int} (h : isL H p d) : Dp K H (.ref p) (.list (d.map PyData.int)) := .lst (sq_of h) (dp_ints d)
theorem dp_enc {t p : Addr} {d : List Int} (h : H t = some (.tup [.int (d.length : Nat), .ref p])) (hp : isL H p d) : Dp K H (.ref t) (enc d) := .tup (st_of h) (.cons (.int _) (.cons (dp_list hp) .nil))
end
end Mn
set_option Elab.async false
set_option linter.all false
set_option maxRecDepth 100000
set_option maxHeartbeats 1000000
/-! [(len(d), d) for d in xs] -/
namespace Mn
open PySem PyProof.Rows L2 Evl
variable {K : PySem.W.Frag} {σ : L2.St} {H : Hp}
/-- t holds (len d, the list at p) -/
def isP (H : Hp) (t : Addr) (p : Addr) (d : List Int) : Prop := H t = some (.tup [.int (d.length : Nat), .ref p])
inductive Ps (H : Hp) : List Addr → List Addr → List (List Int) → Prop
  | nil : Ps H [] [] []
  | cons {t p : Addr} {d : List Int} {ts ps : List Addr} {ds : List (List Int)} : isP H t p d → Ps H ts ps ds → Ps H (t :: ts) (p :: ps) (d :: ds)
theorem Ps.snoc {t p : Addr} {d : List Int} : ∀ {ts ps : List Addr} {ds : List (List Int)}, Ps H ts ps ds → isP H t p d → Ps H (ts ++ [t]) (ps ++ [p]) (ds ++ [d])
  | _, _, _, .nil, h => .cons h .nil
  | _, _, _, .cons r q, h => .cons r (q.snoc h)
theorem Ps.ex {H' : Hp} (e : Ex H H') : ∀ {ts ps : List Addr} {ds : List (List Int)}, Ps H ts ps ds → Ps H' ts ps ds
  | _, _, _, .nil => .nil
  | _, _, _, .cons r q => .cons (e _ _ r) (q.ex e)
theorem Ps.len : ∀ {ts ps : List Addr} {ds : List (List Int)}, Ps H ts ps ds → ts.length = ds.length
  | _, _, _, .nil => rfl
  | _, _, _, .cons _ q => congrArg Nat.succ q.len
theorem Ps.dp : ∀ {ts ps : List Addr} {ds : List (List Int)}, Ps H ts ps ds → PySem.Paired (fun p d => isL H p d) ps ds → DpAll K H (ts.map V.ref) (ds.map enc)
  | _, _, _, .nil, _ => .nil
  | _, _, _, .cons r q, .cons r2 q2 => .cons (dp_enc r r2) (q.dp q2)
theorem Ps.at : ∀ {ts ps : List Addr} {ds : List (List Int)}, Ps H ts ps ds → ∀ {t : Addr}, t ∈ ts → ∃ p d, isP H t p d ∧ (p, d) ∈ ps.zip ds
  | _, _, _, .nil, _, h => by cases h
  | _, _, _, .cons r q, t, h => by
    rcases List.mem_cons.mp h with e | h
    · subst e
      exact ⟨_, _, r, List.mem_cons_self⟩
    · obtain ⟨p, d, h1, h2⟩ := q.at h
      exact ⟨p, d, h1, List.mem_cons_of_mem _ h2⟩
theorem Ps.get : ∀ {ts ps : List Addr} {ds : List (List Int)} {i : Nat} {t : Addr}, Ps H ts ps ds → ts[i]? = some t → ∃ p d, ps[i]? = some p ∧ ds[i]? = some d ∧ isP H t p d
  | _, _, _, _, _, .nil, h => by simp at h
  | _, _, _, 0, t, .cons r q, h => by
    simp at h
    subst h
    exact ⟨_, _, rfl, rfl, r⟩
  | _, _, _, i + 1, t, .cons r q, h => by
    obtain ⟨p, d, h1, h2, h3⟩ := q.get (i := i) (t := t) (by simpa using h)
    exact ⟨p, d, by simpa using h1, by simpa using h2, h3⟩
theorem Ps.mem : ∀ {ts ps : List Addr} {ds : List (List Int)}, Ps H ts ps ds → PySem.Paired (fun p d => isL H p d) ps ds → ∀ {b : V × List Int}, b ∈ (ts.map V.ref).zip ds → ∃ t q, b.1 = V.ref t ∧ isP H t q b.2 ∧ isL H q b.2
  | _, _, _, .nil, _, b, h => by simp at h
  | _, _, _, .cons r q, .cons r2 q2, b, h => by
    rcases List.mem_cons.mp h with e | h
    · subst e
      exact ⟨_, _, rfl, r, r2⟩
    · exact q.mem q2 h
theorem map_int_inj : ∀ {d e : List Int}, d.map PyData.int = e.map PyData.int → d = e
  | [], [], _ => rfl
  | [], _ :: _, h => by simp at h
  | _ :: _, [], h => by simp at h
  | i :: d, j :: e, h => by
    simp only [List.map_cons, List.cons.injEq, PyData.int.injEq] at h
    rw [h.1, map_int_inj h.2]
theorem enc_inj {d e : List Int} (h : enc d = enc e) : d = e := by
  unfold enc at h
  simp only [PyData.tuple.injEq, List.cons.injEq, PyData.list.injEq] at h
  exact map_int_inj h.2.1
theorem enc_likes (ds : List (List Int)) : PySem.W.AlikeAll (ds.map enc) := by
  refine ⟨fun x hx y hy => ?_, fun x hx => ?_⟩
  · obtain ⟨a, _, rfl⟩ := List.mem_map.mp hx
    obtain ⟨b, _, rfl⟩ := List.mem_map.mp hy
    exact enc_alike a b
  · obtain ⟨a, _, rfl⟩ := List.mem_map.mp hx
    exact fun z => by cases z
theorem paired_get {α β : Type} {F : α → β → Prop} : ∀ {i : Nat} {xs : List α} {ys : List β} {x : α} {y : β}, PySem.Paired F xs ys → xs[i]? = some x → ys[i]? = some y → F x y
  | _, _, _, _, _, .nil, h, _ => by simp at h
  | 0, _, _, x, y, .cons r t, h, h2 => by
    simp at h h2
    subst h h2
    exact r
  | i + 1, _, _, x, y, .cons r t, h, h2 => paired_get (i := i) t (by simpa using h) (by simpa using h2)
theorem paired_take {α β : Type} {F : α → β → Prop} : ∀ (n : Nat) {xs : List α} {ys : List β}, PySem.Paired F xs ys → PySem.Paired F (xs.take n) (ys.take n)
  | 0, _, _, _ => .nil
  | _ + 1, _, _, .nil => .nil
  | n + 1, _, _, .cons r t => .cons r (paired_take n t)
theorem paired_at {α β : Type} {F : α → β → Prop} : ∀ {i : Nat} {xs : List α} {ys : List β} {x : α}, PySem.Paired F xs ys → xs[i]? = some x → ∃ y, ys[i]? = some y ∧ F x y
  | _, _, _, _, .nil, h => by simp at h
  | 0, _, _, x, .cons r t, h => by
    simp at h
    subst h
    exact ⟨_, rfl, r⟩
  | i + 1, _, _, x, .cons r t, h => by
    obtain ⟨y, h1, h2⟩ := paired_at (i := i) (x := x) t (by simpa using h)
    exact ⟨y, by simpa using h1, h2⟩
def lenT (K : PySem.W.Frag) : List V → Hp → VK → Prop := fun xs H Q => ∃ p ys, xs = [.ref p] ∧ (SqL K H p ys ∨ SqT K H p ys) ∧ Q (.int ys.length) H
theorem Ps.upd {D : Addr} {o : HO} {xs : List V} (hD : H D = some (.lst xs)) : ∀ {ts ps : List Addr} {ds : List (List Int)}, Ps H ts ps ds → Ps (L2.upd H D o) ts ps ds
  | _, _, _, .nil => .nil
  | _, _, _, .cons (t := t) r q => .cons (by
      have ne : t ≠ D := fun e => by
        have r' : H t = _ := r
        rw [e, hD] at r'
        cases r'
      show L2.upd H D o t = _
      rw [upd_ne ne]
      exact r) (q.upd hD)
abbrev tPair (j : Nat) (K : PySem.W.Frag) : TE := tTup (tCons (tCB (fun xs H Q => ∃ p ys, xs = [.ref p] ∧ (SqL K H p ys ∨ SqT K H p ys) ∧ Q (.int ys.length) H) (tCons (tVar j) tNil)) (tCons (tVar j) tNil))
theorem lc_pairs {l : Addr} {ps : List Addr} {ds : List (List Int)} {j : Nat} {vs : List Nat} {Q : VK} (hl : H l = some (.lst (ps.map V.ref))) (hp : PySem.Paired (fun p d => isL H p d) ps ds) (hz : ps.length ≤ 1000)
    (hw : ∀ x, wipe ((wipe σ vs).set j (some x)) vs = wipe σ vs) (hj : ∀ x, ((wipe σ vs).set j (some x))[j]? = some (some x))
    (k : ∀ L H' ts, Ex H H' → H L = none → H' L = some (.lst (ts.map V.ref)) → Ps H' ts ps ds → Q (.ref L) H') : tLc (iList K (tC (.ref l))) (gName j) tYes (tPair j K) vs σ H Q := by
  refine ⟨l, rfl, ⟨_, sq_of hl⟩, fun D hD => ?_⟩
  refine lc_list (xs := ps.map V.ref) (fun i H' => Ex H H' ∧ ∃ ts, H' D = some (.lst (ts.map V.ref)) ∧ Ps H' ts (ps.take i) (ds.take i)) ⟨Ex.new hD, [], upd_same, .nil⟩ (fun i H' _ p => sq_of (p.1 l _ hl)) (fun i x H' hx p => ?_) fun H' p => ?_
  · obtain ⟨e, ts, h1, h2⟩ := p
    obtain ⟨a, ha, rfl⟩ : ∃ a, ps[i]? = some a ∧ x = V.ref a := by
      rw [List.getElem?_map] at hx
      cases q : ps[i]? with
      | none => rw [q] at hx; cases hx
      | some a => rw [q] at hx; cases hx; exact ⟨a, rfl, rfl⟩
    obtain ⟨d, hd, had⟩ := paired_at hp ha
    have hlen : (d.length : Int) = ((d.map V.int).length : Nat) := by rw [List.length_map]
    have hil : i < ps.length := (List.getElem?_eq_some_iff.mp ha).1
    refine ⟨hw _, ?_⟩
    refine ⟨_, hj _, a, d.map V.int, rfl, .inl (sq_of (e a _ had)), _, hj _, (by rw [sizeLine_eq]; show 2 ≤ _; decide), fun t ht => ?_⟩
    have e1 : Ex H' (L2.upd H' t (.tup [.int ((d.map V.int).length : Nat), .ref a])) := Ex.new ht
    refine ⟨ts.map V.ref, e1 D _ h1, ?_, Ex.mut (e.trans e1) hD, ts ++ [t], ?_, ?_⟩
    · rw [List.length_map, h2.len, sizeLine_eq, List.length_take, ← hp.length]
      omega
    · rw [upd_same, List.map_append] <;> rfl
    · rw [List.take_add_one, ha, List.take_add_one, hd]
      refine Ps.upd (e1 D _ h1) ((h2.ex e1).snoc ?_)
      show L2.upd H' t _ t = _
      rw [upd_same, hlen]
  · obtain ⟨e, ts, h1, h2⟩ := p
    rw [List.length_map, List.take_length, hp.length, List.take_length] at h2
    exact k D H' ts e hD h1 h2
theorem ev_lenL {ta : TE} {l : Addr} {xs : List V} (hv : Ev ta σ H (.ref l)) (hs : SqL K H l xs) : Ev (tCB (fun xs H Q => ∃ p ys, xs = [.ref p] ∧ (SqL K H p ys ∨ SqT K H p ys) ∧ Q (.int ys.length) H) (tCons ta tNil)) σ H (.int (xs.length : Nat)) :=
  ev_cbV (ea_cons hv ea_nil) fun H1 e Q q => ⟨l, xs, rfl, .inl (ex_l e hs), q⟩
theorem k_par {i j : Nat} {ta tb : TE} {tz : TS} {D : Ends} (h : ta σ H fun x H1 => tb σ H1 fun y H2 => ∃ v w, [x, y] = [v, w] ∧ tz D ((σ.set i (some v)).set j (some w)) H2) : tSeq (tPar i j (tCons ta (tCons tb tNil))) tz D σ H := h
theorem k_tup2 {i j n : Nat} {ta : TE} {tz : TS} {D : Ends} (h : ta σ H fun x H1 => ∃ a u v, x = V.ref a ∧ SqT K H1 a [u, v] ∧ tz D ((σ.set i (some u)).set j (some v)) H1) (mono : (ta σ H fun x H1 => ∃ a u v, x = V.ref a ∧ SqT K H1 a [u, v] ∧ tz D ((σ.set i (some u)).set j (some v)) H1) → ta σ H fun x H1 => gTup K 2 (gCons (gName i) (gCons (gName j) gNil)) x σ H1 (tz D)) : tSeq (tAsg ta (gTup K 2 (gCons (gName i) (gCons (gName j) gNil)))) tz D σ H := mono h
theorem lc_tl {tl : TE} {g : TG} {tt : TT} {te : TE} {vs : List Nat} {Q : VK} (h : tl σ H fun x H1 => tLc (iList K (tC x)) g tt te vs σ H1 Q) : tLc (iList K tl) g tt te vs σ H Q := h
/-- sorted(xs), pairs (length, list): a new list of the items as they stand -/
def rSortE (K : PySem.W.Frag) : List V → Hp → VK → Prop := fun xs H Q => ∃ (a : Addr) (bs : List (V × List Int)), xs = [.ref a] ∧ SqL K H a (bs.map (·.1)) ∧ (∀ b ∈ bs, Dp K H b.1 (enc b.2)) ∧
  ∀ p, H p = none → Q (.ref p) (upd H p (.lst ((bs.mergeSort (PySem.W.dataLe false fun b => enc b.2)).map (·.1))))
theorem each_ofE {β : Type} {k : β → V} {P : V → Value → Prop} : ∀ {bs : List β} {its : List Value}, Paired P (bs.map k) its → PySem.W.EachIs (fun v (b : β) => P (k b) v) its bs
  | [], _, r => by cases r; exact .nil
  | b :: bs, _, r => by
    cases r with
    | cons h t => exact .cons h (each_ofE t)
theorem of_eachE {β : Type} {k : β → V} {P : V → Value → Prop} : ∀ {bs : List β} {its : List Value}, PySem.W.EachIs (fun v (b : β) => P (k b) v) its bs → Paired P (bs.map k) its
  | [], _, r => by cases r; exact .nil
  | b :: bs, _, r => by
    cases r with
    | cons h t => exact .cons h (of_eachE t)
theorem each_readsE {X : Cx} {pins : List (Addr × Obj)} {σ : L2.St} {H : Hp} {s : Shared} (I : Inv X pins σ H s) : ∀ {bs : List (V × List Int)} {its : List Value}, Vals (bs.map (·.1)) its → (∀ b ∈ bs, Dp X.K H b.1 (enc b.2)) →
    PySem.W.EachIs (fun v (b : V × List Int) => ∃ as, Reads s.heap v (enc b.2) as) its bs
  | [], _, r, _ => by cases r; exact .nil
  | b :: bs, _, r, d => by
    cases r with
    | cons h t => exact .cons (Dp.reads I (enc b.2) b.1 _ (d b List.mem_cons_self) h) (each_readsE I t fun c hc => d c (List.mem_cons_of_mem _ hc))
theorem cr_sortE {X : Cx} (hu : X.A.units + 64 < cLine) : CallR X (.builtin "sorted") (rSortE X.K) := by
  intro pins s σ H xs us Q I r h
  obtain ⟨a, bs, rfl, hs, hd, q⟩ := h
  obtain ⟨u, rfl, ru⟩ := vals1 r
  cases ru
  obtain ⟨its, rv, pl, hle⟩ := I.list hs
  have hle' : bs.length ≤ sizeLine := by rw [List.length_map] at hle; exact hle
  refine PySem.W.sorted_data (vs := its) (bs := bs) (enc := fun b => enc b.2) (R := fun v b => RelV b.1 v) pl.isList (each_ofE (k := fun b : V × List Int => b.1) rv) (each_readsE I rv hd) (PySem.W.AllAlike.of fun b b' => enc_alike _ _) (PySem.W.Sortable.tuples fun b => ⟨_, _, rfl⟩) hle' (fun b hb => by have := enc_depth b.2; omega) fun out ho he => ?_
  obtain ⟨ep, he'⟩ := PyProof.Rows.sortedAll_at s.heap its out.toArray
  have rv' : Vals ((bs.mergeSort (PySem.W.dataLe false fun b => enc b.2)).map (·.1)) out := of_eachE (k := fun b : V × List Int => b.1) he
  exact ⟨.ref _, _, I.laid (a := s.heap.objs.size + 1) (o := .lst ((bs.mergeSort (PySem.W.dataLe false fun b => enc b.2)).map (·.1))) (t' := s.toks) (fun _ _ => PyProof.Rows.sortedAll_old) (Nat.le_succ _) ⟨by rw [List.length_map, List.length_mergeSort]; exact hle', out, ep, rv', he'⟩, rfl, q _ (I.hok.fresh (Nat.le_succ _))⟩
theorem lc_var {i : Nat} {l : Addr} {g : TG} {tt : TT} {te : TE} {vs : List Nat} {Q : VK} (hv : σ[i]? = some (some (.ref l))) (h : tLc (iList K (tC (.ref l))) g tt te vs σ H Q) : tLc (iList K (tVar i)) g tt te vs σ H Q := ⟨.ref l, hv, h⟩
end Mn
set_option Elab.async false
set_option linter.all false
set_option maxRecDepth 100000
set_option maxHeartbeats 400000
namespace Pw
open PySem PySem.Spec PyProof.Rows L2
def top (i : Nat) : Stmt := PySem.Challenge.pw_chunkletters_k53_books_parted.main.body.getD i (.Pass ⟨0, 0, 0, 0⟩)
def d_law : He.DefD := ⟨("law", none), "law", "law", defArgs (top 45), defBody (top 45), defScope (top 45), [], []⟩
def d__law_bag : He.DefD := ⟨("_law_bag", none), "_law_bag", "_law_bag", defArgs (top 39), defBody (top 39), defScope (top 39), [], []⟩
def d__law_known : He.DefD := ⟨("_law_known", none), "_law_known", "_law_known", defArgs (top 44), defBody (top 44), defScope (top 44), [], []⟩
def d__law_made_book : He.DefD := ⟨("_law_made_book", none), "_law_made_book", "_law_made_book", defArgs (top 43), defBody (top 43), defScope (top 43), [], []⟩
def d__law_options : He.DefD := ⟨("_law_options", none), "_law_options", "_law_options", defArgs (top 42), defBody (top 42), defScope (top 42), [], []⟩
def d__law_pick : He.DefD := ⟨("_law_pick", none), "_law_pick", "_law_pick", defArgs (top 41), defBody (top 41), defScope (top 41), [], []⟩
def d__law_take : He.DefD := ⟨("_law_take", none), "_law_take", "_law_take", defArgs (top 40), defBody (top 40), defScope (top 40), [], []⟩
def d_both_names : He.DefD := ⟨("both_names", none), "both_names", "both_names", defArgs (top 35), defBody (top 35), defScope (top 35), [], []⟩
def d_code_of : He.DefD := ⟨("code_of", none), "code_of", "code_of", defArgs (top 10), defBody (top 10), defScope (top 10), [], []⟩
def d_is_integer : He.DefD := ⟨("is_integer", none), "is_integer", "is_integer", defArgs (top 9), defBody (top 9), defScope (top 9), [], []⟩
def d_is_one_of : He.DefD := ⟨("is_one_of", none), "is_one_of", "is_one_of", defArgs (top 18), defBody (top 18), defScope (top 18), [], []⟩
def d_is_within : He.DefD := ⟨("is_within", none), "is_within", "is_within", defArgs (top 17), defBody (top 17), defScope (top 17), [], []⟩
def d_long_line : He.DefD := ⟨("long_line", none), "long_line", "long_line", defArgs (top 32), defBody (top 32), defScope (top 32), [], []⟩
def d_many_digits : He.DefD := ⟨("many_digits", none), "many_digits", "many_digits", defArgs (top 34), defBody (top 34), defScope (top 34), [], []⟩
def d_many_fields : He.DefD := ⟨("many_fields", none), "many_fields", "many_fields", defArgs (top 33), defBody (top 33), defScope (top 33), [], []⟩
def d_message : He.DefD := ⟨("message", none), "message", "message", defArgs (top 31), defBody (top 31), defScope (top 31), [], []⟩
def d_octets : He.DefD := ⟨("octets", none), "octets", "octets", defArgs (top 11), defBody (top 11), defScope (top 11), [], []⟩
def d_parting : He.DefD := ⟨("parting", none), "parting", "parting", defArgs (top 37), defBody (top 37), defScope (top 37), [], []⟩
def d_unlike_data : He.DefD := ⟨("unlike_data", none), "unlike_data", "unlike_data", defArgs (top 36), defBody (top 36), defScope (top 36), [], []⟩
def d_BookU_initU : He.DefD := ⟨("Book", some "__init__"), "__init__", "Book.__init__", defArgs (inClass (top 19) 0), defBody (inClass (top 19) 0), defScope (inClass (top 19) 0), [], [("both", .str "refuse"), ("lengths", .str "refuse"), ("old_chunked", .str "refuse"), ("keep_old", .bl true), ("most_line", .int 100), ("most_fields", .int 16), ("most_digits", .int 6)]⟩
def fn0 : List (He.DefD) := [d_law, d__law_bag, d__law_known, d__law_made_book, d__law_options, d__law_pick, d__law_take, d_both_names, d_code_of, d_is_integer, d_is_one_of, d_is_within, d_long_line, d_many_digits, d_many_fields, d_message, d_octets, d_parting, d_unlike_data, d_BookU_initU]
def fn : List (He.DefD) := fn0
def fa0 : List (He.Fa) := [.glo "law", .cls "Book", .free "abs", .free "bool", .free "dict", .free "enumerate", .free "int", .free "isinstance", .free "len", .free "list", .free "max", .free "min", .free "range", .free "sorted", .free "str", .glo "Book", .glo "_law_bag", .glo "_law_known", .glo "_law_made_book", .glo "_law_options", .glo "_law_pick", .glo "_law_take", .glo "both_names", .glo "code_of", .glo "is_integer"]
def fa1 : List (He.Fa) := [.glo "is_one_of", .glo "is_within", .glo "long_line", .glo "many_digits", .glo "many_fields", .glo "message", .glo "octets", .glo "parting", .glo "unlike_data", .int "FEED" 10, .int "FIRST" 32, .int "LEAST" 0, .int "MARK" 33, .int "PERCENT" 37, .int "RETURN" 13, .int "TAB" 9, .mkr "Book", .noat "Book" "both", .noat "Book" "keep_old", .noat "Book" "lengths", .noat "Book" "most_digits", .noat "Book" "most_fields", .noat "Book" "most_line", .noat "Book" "old_chunked", .str "ACCEPT" "accept"]
def fa2 : List (He.Fa) := [.str "CHARACTERS" " !\"#$&'()*+,-./0123456789:;<=>?@ABCDEFGHIJKLMNOPQRSTUVWXYZ[\\]^_`abcdefghijklmnopqrstuvwxyz{|}~", .str "CHUNKED_books" "chunked", .str "CHUNKED_partings" "TRANSFER-ENCODING:CHUNKED\n", .str "EQUAL" "equal", .str "KEPT" "CONNECTION:KEEP-ALIVE\n\n", .str "LEAST_FIELD" "!:\n", .str "LENGTH" "CONTENT-LENGTH:", .str "NEW" "HTTP/1.1\n", .str "OLD" "HTTP/1.0\n", .str "REFUSE" "refuse"]
def fa : List (He.Fa) := fa0 ++ fa1 ++ fa2
def ex0 : List (PySem.W.Frag → Bool) := [fun K => He.eqO (PySem.W.findIn K (.ref (He.ga K "Book")) "__class__") (some (some (.builtin "object.__class__"))), fun K => He.eqO (PySem.W.specialIn K (.builtin "object.__class__") "__get__") (some (some (.builtin "getset_descriptor.__get__"))), fun K => decide (PySem.W.takesIn K (.builtin "object.__class__") = some true), fun K => decide (PySem.W.mroIn K (He.ga K "Book") (.type "object") = some true), fun K => decide (PySem.W.kitOne K (.ref (He.ga K "Book")) (.ref (He.ga K "Book")) = some true), fun K => PySem.W.kitOne K (.ref (He.ga K "Book")) (.ref (He.ga K "Book")) == some true]
def ex : List (PySem.W.Frag → Bool) := ex0
/-! ### what the head tells: facts of a part K of the heap, found from the module's names -/
def refsM (o : Obj) : List Addr := match o.data with
  | .seq its _ => its.toList.flatMap He.refV
  | .func fd => He.refV fd.code ++ He.refV fd.kwdefaults ++ He.refV fd.defaults
  | .cls cd => [cd.ns]
  | .dict es _ => es.toList.flatMap fun e => He.refV e.val
  | .fields vs => (match o.cls with
    | .type "property" => vs.toList.flatMap He.refV
    | _ => [])
  | _ => []
def grow1 (g : Addr → Option Obj) (as : List Addr) : List Addr := as.flatMap fun a => match g a with
  | some o => refsM o
  | none => []
def asM (g : Addr → Option Obj) : Nat → List Addr → List Addr
  | 0, fr => fr
  | n + 1, fr => fr ++ asM g n (grow1 g fr)
abbrev AlM : Type := He.AlD × Bool
def obK (K : PySem.W.Frag) : AlM := (He.obsD fa fn K, ex.all fun f => f K)
def obM (g : Addr → Option Obj) : AlM := obK (He.frG g (asM g 5 [mainGlobals]))
def valM : AlM := (He.valD fn, true)
def SaysM (K : PySem.W.Frag) : Prop := obK K = valM
def hookM : PySem.W.Hook where
  α := AlM
  obs := fun s => obM s.heap.get?
  val := fun _ => valM
  says := fun _ h => ∃ K : PySem.W.Frag, K.In h ∧ SaysM K
  of := fun _ _ e => ⟨_, He.frG_in, e⟩
  keeps := fun _ _ _ ⟨K, hK, c⟩ k => ⟨K, PySem.W.Frag.In.keeps hK k, c⟩
/-- the function object that stands at a place -/
def fdt (K : PySem.W.Frag) (p : Str × Option Str) : FuncData := match K.lookup (He.fAd K p) with
  | some ⟨_, _, .func fd, _⟩ => fd
  | _ => default
theorem fdt_eq {K : PySem.W.Frag} {p : Str × Option Str} {x qual : Str} {params : Arguments} {body : List Stmt} {scope : Scope} {dvs : List V} {kws : List (Str × V)} {fd : FuncData}
    (F : FunD K x qual params body scope dvs kws (He.fAd K p) fd) : FunD K x qual params body scope dvs kws (He.fAd K p) (fdt K p) := by
  obtain ⟨oc, od, dV, kV, doc, pm, an, cdv, ct, osl, e, lk, r⟩ := F.ex
  have z : fdt K p = fd := by
    unfold fdt
    rw [lk]
  rw [z]
  exact F
abbrev FD (K : PySem.W.Frag) (d : He.DefD) : Prop := FunD K d.name d.qual d.params d.body d.scope (d.dvs K) (d.kws K) (He.fAd K d.at_) (fdt K d.at_)
structure Tx (K : PySem.W.Frag) (mg : Str → Option Value) : Prop where
  c : SaysM K
  hin : ∃ h : Heap, K.In h ∧ h.Ns mainGlobals mg
section
variable {K : PySem.W.Frag} {mg : Str → Option Value}
theorem Tx.sd (T : Tx K mg) : He.SaysD fa fn K := congrArg (fun z : AlM => z.1) T.c
theorem Tx.fn (T : Tx K mg) (i : Nat) {d : He.DefD} (h : Pw.fn[i]? = some d) : FD K d := by
  obtain ⟨fd, F⟩ := T.sd.def_ i h
  exact fdt_eq F
theorem Tx.exf (T : Tx K mg) (i : Nat) {f : PySem.W.Frag → Bool} (h : Pw.ex[i]? = some f) : f K = true := by
  have e : (Pw.ex.all fun f => f K) = true := congrArg (fun z : AlM => z.2) T.c
  exact List.all_eq_true.mp e f (List.mem_of_getElem? h)
theorem Tx.glo (T : Tx K mg) (i : Nat) {x : Str} (h : fa[i]? = some (.glo x)) : mg x = some (.ref (He.ga K x)) := by
  obtain ⟨hp, X, G⟩ := T.hin
  exact He.glo_ok X G (T.sd.fact i h)
theorem Tx.fre (T : Tx K mg) (i : Nat) {x : Str} (h : fa[i]? = some (.free x)) : mg x = none := by
  obtain ⟨hp, X, G⟩ := T.hin
  exact He.free_ok X G (T.sd.fact i h)
theorem Tx.int (T : Tx K mg) (i : Nat) {x : Str} {n : Int} (h : fa[i]? = some (.int x n)) : ∃ t, mg x = some (.int n t) := by
  obtain ⟨hp, X, G⟩ := T.hin
  exact He.int_ok X G (T.sd.fact i h)
theorem Tx.str (T : Tx K mg) (i : Nat) {x z : Str} (h : fa[i]? = some (.str x z)) : ∃ t, mg x = some (.str z t) := by
  obtain ⟨hp, X, G⟩ := T.hin
  exact He.str_ok X G (T.sd.fact i h)
theorem Tx.cls (T : Tx K mg) (i : Nat) {x : Str} (h : fa[i]? = some (.cls x)) : Cls K (He.ga K x) := He.cls_ok (T.sd.fact i h)
theorem Tx.noa (T : Tx K mg) (i : Nat) {x f : Str} (h : fa[i]? = some (.noat x f)) : NoAttr K (He.ga K x) f := He.noat_ok (T.sd.fact i h)
theorem Tx.mth (T : Tx K mg) (i : Nat) {x m : Str} (h : fa[i]? = some (.meth x m)) : Meth K (He.ga K x) m (He.ma K (He.ga K x) m) := He.meth_ok (T.sd.fact i h)
theorem Tx.mkr (T : Tx K mg) (i : Nat) {x : Str} (h : fa[i]? = some (.mkr x)) : Mk K (He.ga K x) (He.ma K (He.ga K x) "__init__") := He.mkr_ok (T.sd.fact i h)
theorem Tx.kee (T : Tx K mg) (i : Nat) {x : Str} (h : fa[i]? = some (.keep x)) : PySem.W.keepIn K (.ref (He.ga K x)) = true := He.keep_ok (T.sd.fact i h)
theorem Tx.g_law (T : Tx K mg) : mg "law" = some (.ref (He.ga K "law")) := T.glo 0 rfl
theorem Tx.F_law (T : Tx K mg) : FD K d_law := T.fn 0 rfl
theorem Tx.F__law_bag (T : Tx K mg) : FD K d__law_bag := T.fn 1 rfl
theorem Tx.b__law_bag (T : Tx K mg) : Binds K (fdt K d__law_bag.at_) ["_law_script", "_law_at"] [] := (T.F__law_bag).bindsN fun _ _ _ _ _ _ us hl => match us, hl with | [_, _], _ => rfl
theorem Tx.F__law_known (T : Tx K mg) : FD K d__law_known := T.fn 2 rfl
theorem Tx.b__law_known (T : Tx K mg) : Binds K (fdt K d__law_known.at_) ["_law_one", "_law_other"] [] := (T.F__law_known).bindsN fun _ _ _ _ _ _ us hl => match us, hl with | [_, _], _ => rfl
theorem Tx.F__law_made_book (T : Tx K mg) : FD K d__law_made_book := T.fn 3 rfl
theorem Tx.b__law_made_book (T : Tx K mg) : Binds K (fdt K d__law_made_book.at_) ["_law_told"] [] := (T.F__law_made_book).bindsN fun _ _ _ _ _ _ us hl => match us, hl with | [_], _ => rfl
theorem Tx.F__law_options (T : Tx K mg) : FD K d__law_options := T.fn 4 rfl
theorem Tx.b__law_options (T : Tx K mg) : Binds K (fdt K d__law_options.at_) ["_law_bag_here"] [] := (T.F__law_options).bindsN fun _ _ _ _ _ _ us hl => match us, hl with | [_], _ => rfl
theorem Tx.F__law_pick (T : Tx K mg) : FD K d__law_pick := T.fn 5 rfl
theorem Tx.b__law_pick (T : Tx K mg) : Binds K (fdt K d__law_pick.at_) ["_law_bag_here", "_law_menu"] [] := (T.F__law_pick).bindsN fun _ _ _ _ _ _ us hl => match us, hl with | [_, _], _ => rfl
theorem Tx.F__law_take (T : Tx K mg) : FD K d__law_take := T.fn 6 rfl
theorem Tx.b__law_take (T : Tx K mg) : Binds K (fdt K d__law_take.at_) ["_law_bag_here", "_law_many"] [] := (T.F__law_take).bindsN fun _ _ _ _ _ _ us hl => match us, hl with | [_, _], _ => rfl
theorem Tx.F_both_names (T : Tx K mg) : FD K d_both_names := T.fn 7 rfl
theorem Tx.b_both_names (T : Tx K mg) : Binds K (fdt K d_both_names.at_) ["one", "other"] [] := (T.F_both_names).bindsN fun _ _ _ _ _ _ us hl => match us, hl with | [_, _], _ => rfl
theorem Tx.F_code_of (T : Tx K mg) : FD K d_code_of := T.fn 8 rfl
theorem Tx.b_code_of (T : Tx K mg) : Binds K (fdt K d_code_of.at_) ["character"] [] := (T.F_code_of).bindsN fun _ _ _ _ _ _ us hl => match us, hl with | [_], _ => rfl
theorem Tx.F_is_integer (T : Tx K mg) : FD K d_is_integer := T.fn 9 rfl
theorem Tx.b_is_integer (T : Tx K mg) : Binds K (fdt K d_is_integer.at_) ["thing"] [] := (T.F_is_integer).bindsN fun _ _ _ _ _ _ us hl => match us, hl with | [_], _ => rfl
theorem Tx.F_is_one_of (T : Tx K mg) : FD K d_is_one_of := T.fn 10 rfl
theorem Tx.b_is_one_of (T : Tx K mg) : Binds K (fdt K d_is_one_of.at_) ["thing", "words"] [] := (T.F_is_one_of).bindsN fun _ _ _ _ _ _ us hl => match us, hl with | [_, _], _ => rfl
theorem Tx.F_is_within (T : Tx K mg) : FD K d_is_within := T.fn 11 rfl
theorem Tx.b_is_within (T : Tx K mg) : Binds K (fdt K d_is_within.at_) ["thing", "least", "most"] [] := (T.F_is_within).bindsN fun _ _ _ _ _ _ us hl => match us, hl with | [_, _, _], _ => rfl
theorem Tx.F_long_line (T : Tx K mg) : FD K d_long_line := T.fn 12 rfl
theorem Tx.b_long_line (T : Tx K mg) : Binds K (fdt K d_long_line.at_) ["one", "other"] [] := (T.F_long_line).bindsN fun _ _ _ _ _ _ us hl => match us, hl with | [_, _], _ => rfl
theorem Tx.F_many_digits (T : Tx K mg) : FD K d_many_digits := T.fn 13 rfl
theorem Tx.b_many_digits (T : Tx K mg) : Binds K (fdt K d_many_digits.at_) ["one", "other"] [] := (T.F_many_digits).bindsN fun _ _ _ _ _ _ us hl => match us, hl with | [_, _], _ => rfl
theorem Tx.F_many_fields (T : Tx K mg) : FD K d_many_fields := T.fn 14 rfl
theorem Tx.b_many_fields (T : Tx K mg) : Binds K (fdt K d_many_fields.at_) ["one", "other"] [] := (T.F_many_fields).bindsN fun _ _ _ _ _ _ us hl => match us, hl with | [_, _], _ => rfl
theorem Tx.F_message (T : Tx K mg) : FD K d_message := T.fn 15 rfl
theorem Tx.b_message (T : Tx K mg) : Binds K (fdt K d_message.at_) ["version", "rest"] [] := (T.F_message).bindsN fun _ _ _ _ _ _ us hl => match us, hl with | [_, _], _ => rfl
theorem Tx.F_octets (T : Tx K mg) : FD K d_octets := T.fn 16 rfl
theorem Tx.b_octets (T : Tx K mg) : Binds K (fdt K d_octets.at_) ["text"] [] := (T.F_octets).bindsN fun _ _ _ _ _ _ us hl => match us, hl with | [_], _ => rfl
theorem Tx.F_parting (T : Tx K mg) : FD K d_parting := T.fn 17 rfl
theorem Tx.b_parting (T : Tx K mg) : Binds K (fdt K d_parting.at_) ["one", "other"] [] := (T.F_parting).bindsN fun _ _ _ _ _ _ us hl => match us, hl with | [_, _], _ => rfl
theorem Tx.F_unlike_data (T : Tx K mg) : FD K d_unlike_data := T.fn 18 rfl
theorem Tx.b_unlike_data (T : Tx K mg) : Binds K (fdt K d_unlike_data.at_) ["one", "other"] [] := (T.F_unlike_data).bindsN fun _ _ _ _ _ _ us hl => match us, hl with | [_, _], _ => rfl
theorem Tx.c_Book (T : Tx K mg) : Cls K (He.ga K "Book") := T.cls 1 rfl
theorem Tx.f_abs (T : Tx K mg) : mg "abs" = none := T.fre 2 rfl
theorem Tx.f_bool (T : Tx K mg) : mg "bool" = none := T.fre 3 rfl
theorem Tx.f_dict (T : Tx K mg) : mg "dict" = none := T.fre 4 rfl
theorem Tx.f_enumerate (T : Tx K mg) : mg "enumerate" = none := T.fre 5 rfl
theorem Tx.f_int (T : Tx K mg) : mg "int" = none := T.fre 6 rfl
theorem Tx.f_isinstance (T : Tx K mg) : mg "isinstance" = none := T.fre 7 rfl
theorem Tx.f_len (T : Tx K mg) : mg "len" = none := T.fre 8 rfl
theorem Tx.f_list (T : Tx K mg) : mg "list" = none := T.fre 9 rfl
theorem Tx.f_max (T : Tx K mg) : mg "max" = none := T.fre 10 rfl
theorem Tx.f_min (T : Tx K mg) : mg "min" = none := T.fre 11 rfl
theorem Tx.f_range (T : Tx K mg) : mg "range" = none := T.fre 12 rfl
theorem Tx.f_sorted (T : Tx K mg) : mg "sorted" = none := T.fre 13 rfl
theorem Tx.f_str (T : Tx K mg) : mg "str" = none := T.fre 14 rfl
theorem Tx.g_Book (T : Tx K mg) : mg "Book" = some (.ref (He.ga K "Book")) := T.glo 15 rfl
theorem Tx.g__law_bag (T : Tx K mg) : mg "_law_bag" = some (.ref (He.ga K "_law_bag")) := T.glo 16 rfl
theorem Tx.g__law_known (T : Tx K mg) : mg "_law_known" = some (.ref (He.ga K "_law_known")) := T.glo 17 rfl
theorem Tx.g__law_made_book (T : Tx K mg) : mg "_law_made_book" = some (.ref (He.ga K "_law_made_book")) := T.glo 18 rfl
theorem Tx.g__law_options (T : Tx K mg) : mg "_law_options" = some (.ref (He.ga K "_law_options")) := T.glo 19 rfl
theorem Tx.g__law_pick (T : Tx K mg) : mg "_law_pick" = some (.ref (He.ga K "_law_pick")) := T.glo 20 rfl
theorem Tx.g__law_take (T : Tx K mg) : mg "_law_take" = some (.ref (He.ga K "_law_take")) := T.glo 21 rfl
theorem Tx.g_both_names (T : Tx K mg) : mg "both_names" = some (.ref (He.ga K "both_names")) := T.glo 22 rfl
theorem Tx.g_code_of (T : Tx K mg) : mg "code_of" = some (.ref (He.ga K "code_of")) := T.glo 23 rfl
theorem Tx.g_is_integer (T : Tx K mg) : mg "is_integer" = some (.ref (He.ga K "is_integer")) := T.glo 24 rfl
theorem Tx.g_is_one_of (T : Tx K mg) : mg "is_one_of" = some (.ref (He.ga K "is_one_of")) := T.glo 25 rfl
theorem Tx.g_is_within (T : Tx K mg) : mg "is_within" = some (.ref (He.ga K "is_within")) := T.glo 26 rfl
theorem Tx.g_long_line (T : Tx K mg) : mg "long_line" = some (.ref (He.ga K "long_line")) := T.glo 27 rfl
theorem Tx.g_many_digits (T : Tx K mg) : mg "many_digits" = some (.ref (He.ga K "many_digits")) := T.glo 28 rfl
theorem Tx.g_many_fields (T : Tx K mg) : mg "many_fields" = some (.ref (He.ga K "many_fields")) := T.glo 29 rfl
theorem Tx.g_message (T : Tx K mg) : mg "message" = some (.ref (He.ga K "message")) := T.glo 30 rfl
theorem Tx.g_octets (T : Tx K mg) : mg "octets" = some (.ref (He.ga K "octets")) := T.glo 31 rfl
theorem Tx.g_parting (T : Tx K mg) : mg "parting" = some (.ref (He.ga K "parting")) := T.glo 32 rfl
theorem Tx.g_unlike_data (T : Tx K mg) : mg "unlike_data" = some (.ref (He.ga K "unlike_data")) := T.glo 33 rfl
theorem Tx.i_FEED (T : Tx K mg) : ∃ t, mg "FEED" = some (.int 10 t) := T.int 34 rfl
theorem Tx.i_FIRST (T : Tx K mg) : ∃ t, mg "FIRST" = some (.int 32 t) := T.int 35 rfl
theorem Tx.i_LEAST (T : Tx K mg) : ∃ t, mg "LEAST" = some (.int 0 t) := T.int 36 rfl
theorem Tx.i_MARK (T : Tx K mg) : ∃ t, mg "MARK" = some (.int 33 t) := T.int 37 rfl
theorem Tx.i_PERCENT (T : Tx K mg) : ∃ t, mg "PERCENT" = some (.int 37 t) := T.int 38 rfl
theorem Tx.i_RETURN (T : Tx K mg) : ∃ t, mg "RETURN" = some (.int 13 t) := T.int 39 rfl
theorem Tx.i_TAB (T : Tx K mg) : ∃ t, mg "TAB" = some (.int 9 t) := T.int 40 rfl
theorem Tx.is_Book (T : Tx K mg) : C8.InsC K (He.ga K "Book") := ⟨T.cls 1 rfl, He.eqO_ok (T.exf (f := fun K => He.eqO (PySem.W.findIn K (.ref (He.ga K "Book")) "__class__") (some (some (.builtin "object.__class__")))) 0 rfl), He.eqO_ok (T.exf (f := fun K => He.eqO (PySem.W.specialIn K (.builtin "object.__class__") "__get__") (some (some (.builtin "getset_descriptor.__get__")))) 1 rfl), of_decide_eq_true (T.exf (f := fun K => decide (PySem.W.takesIn K (.builtin "object.__class__") = some true)) 2 rfl), of_decide_eq_true (T.exf (f := fun K => decide (PySem.W.mroIn K (He.ga K "Book") (.type "object") = some true)) 3 rfl), of_decide_eq_true (T.exf (f := fun K => decide (PySem.W.kitOne K (.ref (He.ga K "Book")) (.ref (He.ga K "Book")) = some true)) 4 rfl)⟩
theorem Tx.F_BookU_initU (T : Tx K mg) : FD K d_BookU_initU := T.fn 19 rfl
theorem Tx.kb_BookU_initU_0_both_lengths_old_chunked_keep_old_most_line_most_fields_most_digits (T : Tx K mg) : KBn K (fdt K d_BookU_initU.at_) ["self", "both", "lengths", "old_chunked", "keep_old", "most_line", "most_fields", "most_digits"] 1 ["both", "lengths", "old_chunked", "keep_old", "most_line", "most_fields", "most_digits"] (fun us ws => us ++ ws) (fun vs zs => vs ++ zs) :=
  let ⟨_, h⟩ := FunD.kbinds0 (ps := ["self", "both", "lengths", "old_chunked", "keep_old", "most_line", "most_fields", "most_digits"]) T.F_BookU_initU 1 ["both", "lengths", "old_chunked", "keep_old", "most_line", "most_fields", "most_digits"] [] (fun us _ ws => us ++ ws) (by simp [d_BookU_initU, He.DefD.kws]) (fun _ h => absurd h (by simp)) (fun r _ z => r.append z)
    (fun _ _ _ _ _ _ us _ ws h1 _ h3 => match us, ws, h1, h3 with | [_], [_, _, _, _, _, _, _], _, _ => rfl)
  h
theorem Tx.kp__law_bag (T : Tx K mg) : PySem.W.keepIn K (.ref (He.fAd K d__law_bag.at_)) = true := (T.F__law_bag).kp
theorem Tx.kp__law_known (T : Tx K mg) : PySem.W.keepIn K (.ref (He.fAd K d__law_known.at_)) = true := (T.F__law_known).kp
theorem Tx.kp__law_made_book (T : Tx K mg) : PySem.W.keepIn K (.ref (He.fAd K d__law_made_book.at_)) = true := (T.F__law_made_book).kp
theorem Tx.kp__law_options (T : Tx K mg) : PySem.W.keepIn K (.ref (He.fAd K d__law_options.at_)) = true := (T.F__law_options).kp
theorem Tx.kp__law_pick (T : Tx K mg) : PySem.W.keepIn K (.ref (He.fAd K d__law_pick.at_)) = true := (T.F__law_pick).kp
theorem Tx.kp__law_take (T : Tx K mg) : PySem.W.keepIn K (.ref (He.fAd K d__law_take.at_)) = true := (T.F__law_take).kp
theorem Tx.kp_both_names (T : Tx K mg) : PySem.W.keepIn K (.ref (He.fAd K d_both_names.at_)) = true := (T.F_both_names).kp
theorem Tx.kp_code_of (T : Tx K mg) : PySem.W.keepIn K (.ref (He.fAd K d_code_of.at_)) = true := (T.F_code_of).kp
theorem Tx.kp_is_integer (T : Tx K mg) : PySem.W.keepIn K (.ref (He.fAd K d_is_integer.at_)) = true := (T.F_is_integer).kp
theorem Tx.kp_is_one_of (T : Tx K mg) : PySem.W.keepIn K (.ref (He.fAd K d_is_one_of.at_)) = true := (T.F_is_one_of).kp
theorem Tx.kp_is_within (T : Tx K mg) : PySem.W.keepIn K (.ref (He.fAd K d_is_within.at_)) = true := (T.F_is_within).kp
theorem Tx.kp_long_line (T : Tx K mg) : PySem.W.keepIn K (.ref (He.fAd K d_long_line.at_)) = true := (T.F_long_line).kp
theorem Tx.kp_many_digits (T : Tx K mg) : PySem.W.keepIn K (.ref (He.fAd K d_many_digits.at_)) = true := (T.F_many_digits).kp
theorem Tx.kp_many_fields (T : Tx K mg) : PySem.W.keepIn K (.ref (He.fAd K d_many_fields.at_)) = true := (T.F_many_fields).kp
theorem Tx.kp_message (T : Tx K mg) : PySem.W.keepIn K (.ref (He.fAd K d_message.at_)) = true := (T.F_message).kp
theorem Tx.kp_octets (T : Tx K mg) : PySem.W.keepIn K (.ref (He.fAd K d_octets.at_)) = true := (T.F_octets).kp
theorem Tx.kp_parting (T : Tx K mg) : PySem.W.keepIn K (.ref (He.fAd K d_parting.at_)) = true := (T.F_parting).kp
theorem Tx.kp_unlike_data (T : Tx K mg) : PySem.W.keepIn K (.ref (He.fAd K d_unlike_data.at_)) = true := (T.F_unlike_data).kp
theorem Tx.m_Book (T : Tx K mg) : Mk K (He.ga K "Book") (He.ma K (He.ga K "Book") "__init__") := T.mkr 41 rfl
theorem Tx.na_Book_both (T : Tx K mg) : NoAttr K (He.ga K "Book") "both" := T.noa 42 rfl
theorem Tx.na_Book_keep_old (T : Tx K mg) : NoAttr K (He.ga K "Book") "keep_old" := T.noa 43 rfl
theorem Tx.na_Book_lengths (T : Tx K mg) : NoAttr K (He.ga K "Book") "lengths" := T.noa 44 rfl
theorem Tx.na_Book_most_digits (T : Tx K mg) : NoAttr K (He.ga K "Book") "most_digits" := T.noa 45 rfl
theorem Tx.na_Book_most_fields (T : Tx K mg) : NoAttr K (He.ga K "Book") "most_fields" := T.noa 46 rfl
theorem Tx.na_Book_most_line (T : Tx K mg) : NoAttr K (He.ga K "Book") "most_line" := T.noa 47 rfl
theorem Tx.na_Book_old_chunked (T : Tx K mg) : NoAttr K (He.ga K "Book") "old_chunked" := T.noa 48 rfl
theorem Tx.s_ACCEPT (T : Tx K mg) : ∃ t, mg "ACCEPT" = some (.str "accept" t) := T.str 49 rfl
theorem Tx.s_CHARACTERS (T : Tx K mg) : ∃ t, mg "CHARACTERS" = some (.str " !\"#$&'()*+,-./0123456789:;<=>?@ABCDEFGHIJKLMNOPQRSTUVWXYZ[\\]^_`abcdefghijklmnopqrstuvwxyz{|}~" t) := T.str 50 rfl
theorem Tx.s_CHUNKED_books (T : Tx K mg) : ∃ t, mg "CHUNKED_books" = some (.str "chunked" t) := T.str 51 rfl
theorem Tx.s_CHUNKED_partings (T : Tx K mg) : ∃ t, mg "CHUNKED_partings" = some (.str "TRANSFER-ENCODING:CHUNKED\n" t) := T.str 52 rfl
theorem Tx.s_EQUAL (T : Tx K mg) : ∃ t, mg "EQUAL" = some (.str "equal" t) := T.str 53 rfl
theorem Tx.s_KEPT (T : Tx K mg) : ∃ t, mg "KEPT" = some (.str "CONNECTION:KEEP-ALIVE\n\n" t) := T.str 54 rfl
theorem Tx.s_LEAST_FIELD (T : Tx K mg) : ∃ t, mg "LEAST_FIELD" = some (.str "!:\n" t) := T.str 55 rfl
theorem Tx.s_LENGTH (T : Tx K mg) : ∃ t, mg "LENGTH" = some (.str "CONTENT-LENGTH:" t) := T.str 56 rfl
theorem Tx.s_NEW (T : Tx K mg) : ∃ t, mg "NEW" = some (.str "HTTP/1.1\n" t) := T.str 57 rfl
theorem Tx.s_OLD (T : Tx K mg) : ∃ t, mg "OLD" = some (.str "HTTP/1.0\n" t) := T.str 58 rfl
theorem Tx.s_REFUSE (T : Tx K mg) : ∃ t, mg "REFUSE" = some (.str "refuse" t) := T.str 59 rfl
theorem Tx.isBook (T : Tx K mg) : (fun K => PySem.W.kitOne K (.ref (He.ga K "Book")) (.ref (He.ga K "Book")) == some true) K = true := T.exf 5 rfl
end
end Pw
set_option Elab.async false
set_option linter.all false
set_option maxRecDepth 100000
set_option maxHeartbeats 400000
namespace Pw
open PySem PySem.Spec PyProof.Rows L2 Evl
local macro_rules | `(tactic| walk_at "va") => `(tactic| first | exact va_nil | ((with_reducible apply va_cons); (walk_at "vl"); (walk_at "va")))
local macro_rules | `(tactic| walk_at "vl") => `(tactic| first | with_reducible exact vl_c | ((with_reducible refine vl_var ?_); rfl) | ((with_reducible apply vl_I0); (walk_at "vl"); (walk_at "vl")) | ((with_reducible apply vl_int1b); (walk_at "va")))
variable {P : Program} {w : World} {K : PySem.W.Frag} {mg : Str → Option Value} {base : Heap}
--EX isBook := fun K => PySem.W.kitOne K (.ref (He.ga K "Book")) (.ref (He.ga K "Book")) == some true
/-! ### what is computed -/
def chars : Str := " !\"#$&'()*+,-./0123456789:;<=>?@ABCDEFGHIJKLMNOPQRSTUVWXYZ[\\]^_`abcdefghijklmnopqrstuvwxyz{|}~"
def codeI (c : Nat) : Int := 32 + Txt.find chars ⟨#[c]⟩ + (if decide (37 ≤ 32 + Txt.find chars ⟨#[c]⟩) then 1 else 0)
def okC (c : Nat) : Bool := c == 10 || decide (c ∈ chars.cps.toList)
def octC (c : Nat) : List Int := if c = 10 then [13, 10] else [codeI c]
def octs (l : List Nat) : List Int := l.flatMap octC
def octI (x : Str) : List Int := octs x.cps.toList
abbrev okS (x : Str) : Prop := x.cps.toList.all okC = true
abbrev vI (l : List Int) : List V := l.map V.int
theorem octC_len (c : Nat) : (octC c).length ≤ 2 := by
  unfold octC
  split <;> simp
theorem octs_len : ∀ l : List Nat, (octs l).length ≤ 2 * l.length
  | [] => by simp [octs]
  | c :: l => by
    have h1 := octs_len l
    have h2 := octC_len c
    show (octC c ++ octs l).length ≤ _
    rw [List.length_append, List.length_cons]
    omega
theorem nl_eq {c : Nat} (h : V.str ⟨#[c]⟩ = V.str "\n") : c = 10 := by
  injection h with h
  have := congrArg (fun z : Str => z.cps.toList) h
  exact (List.cons.inj (show [c] = [10] from this)).1
/-- a book's options -/
structure Op where
  both : Str
  lengths : Str
  old : Str
  keep : Bool
  line : Int
  fields : Int
  digits : Int
def Op.ok (o : Op) : Prop := (o.both = "refuse" ∨ o.both = "chunked") ∧ (o.lengths = "refuse" ∨ o.lengths = "equal") ∧ (o.old = "refuse" ∨ o.old = "accept") ∧ 40 ≤ o.line ∧ o.line ≤ 200 ∧ 2 ≤ o.fields ∧ o.fields ≤ 20 ∧ 1 ≤ o.digits ∧ o.digits ≤ 8
abbrev s_is_integer : Stmt := (top 9)
abbrev sn_is_integer : List Str := ["thing"]
theorem sc_is_integer : FnScope sn_is_integer ["thing"] (defScope s_is_integer) := ⟨rfl, rfl, rfl, by decide +kernel, rfl, by decide +kernel, by decide +kernel⟩
def sp_is_integer : Sp := fun vs H Q _ => ∃ n : Int, vs = [.int n] ∧ Q (.bl true) H
theorem ok_is_integer (T : Tx K mg) : FnOk P w K mg base CX0 1 (He.fAd K d_is_integer.at_) (fdt K d_is_integer.at_) ["thing"] sp_is_integer :=
  FunD.ok T.F_is_integer sc_is_integer (fun _ _ _ _ ⟨n, e, _⟩ => by subst e; rfl) fun cdv A outer s H vs Q E hr ⟨n, ev, q⟩ => by
    subst ev
    refine ⟨_, PSs.nox (pss_one (ps_ret (pe_and (pe_callB call_isi (by rfl) (T.f_isinstance) (by decide +kernel) (pa_cons (pv 0) (pa_cons (pe_bltn (v := .ty "int") (by rfl) (T.f_int) (by decide +kernel) rfl) pa_nil))) (pe_one (pe_not (pe_callB call_isi (by rfl) (T.f_isinstance) (by decide +kernel) (pa_cons (pv 0) (pa_cons (pe_bltn (v := .ty "bool") (by rfl) (T.f_bool) (by decide +kernel) rfl) pa_nil)))))))), ?_⟩
    exact st_ret (vl_andV (vl_isi (va_cons (vl_var rfl) (va_cons vl_c va_nil)) (.base (.int n)) (b := true) rfl) fun _ => vl_notV (vl_isi (va_cons (vl_var rfl) (va_cons vl_c va_nil)) (.base (.int n)) (b := false) rfl)) q
abbrev s_code_of : Stmt := (top 10)
abbrev sn_code_of : List Str := ["character", "at"]
theorem sc_code_of : FnScope sn_code_of ["character"] (defScope s_code_of) := ⟨rfl, rfl, rfl, by decide +kernel, rfl, by decide +kernel, by decide +kernel⟩
def sp_code_of : Sp := fun vs H Q _ => ∃ c : Nat, vs = [.str ⟨#[c]⟩] ∧ Q (.int (codeI c)) H
theorem ok_code_of (T : Tx K mg) : FnOk P w K mg base CX0 1 (He.fAd K d_code_of.at_) (fdt K d_code_of.at_) ["character"] sp_code_of :=
  FunD.ok T.F_code_of sc_code_of (fun _ _ _ _ ⟨n, e, _⟩ => by subst e; rfl) fun cdv A outer s H vs Q E hr ⟨c, ev, q⟩ => by
    subst ev
    refine ⟨_, PSs.nox (pss_cons (ps_set (i := 1) sc_code_of.nd rfl (Or.inl rfl) (pe_bm PySem.F.plainAttrs_str PySem.F.slot_str_find PySem.F.type_str_find mt_find (pe_gs (T.s_CHARACTERS)) (pa_cons (pv 0) pa_nil)))
      (pss_one (ps_ret (pe_op op_add (pe_op op_add (pe_gi (T.i_FIRST)) (pv 1)) (pe_callTy call_int1 (by rfl) (T.f_int) (by decide +kernel) (pa_cons (pe_cmpR op_ge (pe_op op_add (pe_gi (T.i_FIRST)) (pv 1)) (pe_gi (T.i_PERCENT)) (nomark _)) pa_nil)))))), ?_⟩
    refine v_set (vl_find vl_c (va_cons (vl_var rfl) va_nil)) ?_
    apply st_ret
    · walk_at "vl"
    · exact q
abbrev s_octets : Stmt := (top 11)
abbrev sn_octets : List Str := ["text", "found", "at", "character"]
theorem sc_octets : FnScope sn_octets ["text"] (defScope s_octets) := ⟨rfl, rfl, rfl, by decide +kernel, rfl, by decide +kernel, by decide +kernel⟩
def sp_octets : Sp := fun vs H Q _ => ∃ x : Str, vs = [.str x] ∧ okS x ∧ x.length ≤ 2000 ∧ RetL (vI (octI x)) H Q
theorem ok_octets (T : Tx K mg) : FnOk P w K mg base CX0 3 (He.fAd K d_octets.at_) (fdt K d_octets.at_) ["text"] sp_octets :=
  FunD.ok T.F_octets sc_octets (fun _ _ _ _ ⟨n, e, _⟩ => by subst e; rfl) fun cdv A outer s H vs Q E hr ⟨x, ev, hx, hl, q⟩ => by
    subst ev
    refine ⟨_, PSs.nox (pss_cons (ps_if (pt_not (pt_val (pe_callB call_isi (by rfl) (T.f_isinstance) (by decide +kernel) (pa_cons (pv 0) (pa_cons (pe_bltn (v := .ty "str") (by rfl) (T.f_str) (by decide +kernel) rfl) pa_nil))))) (pss_one ps_never) pss_nil)
      (pss_cons (ps_set (i := 1) sc_octets.nd rfl (Or.inl rfl) (pe_lst pa_nil))
      (pss_cons (ps_for PassesOwn.never rfl (pi_enumS (by rfl) (T.f_enumerate) (pa_cons (pv 0) pa_nil)) (pg_tup rfl (pgs_cons (pg_name (i := 2) sc_octets.nd rfl (Or.inl rfl)) (pgs_cons (pg_name (i := 3) sc_octets.nd rfl (Or.inl rfl)) pgs_nil))) (pss_one (ps_if (pt_cmpR op_eq (pv 3) pe_str (nomark _)) (pss_one (ps_aug (i := 1) sc_octets.nd rfl (.inl rfl) (pe_lst (pa_cons (pe_gi (T.i_RETURN)) (pa_cons (pe_gi (T.i_FEED)) pa_nil))) ip_ext)) (pss_one (ps_if (pt_cmpR op_in_sign (pv 3) (pe_gs (T.s_CHARACTERS)) rfl) (pss_one (ps_expr (pe_bm PySem.F.plainAttrs_list PySem.F.slot_list_append PySem.F.type_list_append mt_append (pv 1) (pa_cons (pe_call (ok_code_of T) (hr.mono (by decide)) rfl (T.g_code_of) (T.kp_code_of) (T.b_code_of) .nil pass0 (pa_cons (pv 3) pa_nil)) pa_nil)))) (pss_one ps_never))))))
      (pss_one (ps_ret (pv 1)))))), ?_⟩
    refine v_when (an_not (an_B (vl_isi (va_cons (vl_var rfl) (va_cons vl_c va_nil)) (.base (.str x)) (b := true) rfl))) (fun h => by cases h) fun _ => ?_
    refine q_asgL (el_lst ea_nil (by decide)) fun l H1 hl0 e1 h1 => ?_
    refine st_seq ?_
    refine vl_var (v := .str x) rfl _ ?_
    refine ⟨x, rfl, for_enumS (fun i σ' H' => (∃ u v, σ' = [some (.str x), some (.ref l), u, v]) ∧ Ex H H' ∧ H' l = some (.lst (vI (octs (x.cps.toList.take i))))) ⟨⟨_, _, rfl⟩, e1, h1⟩ (fun i c σ' H' p hc pv hp => ?_) fun σ' H' pv => ?_⟩
    · obtain ⟨⟨u, v, rfl⟩, e2, h2⟩ := pv
      have hpl : p ≠ l := fun e => by rw [e, h2] at hp; cases hp
      have e3 : Ex H (upd H' p (.tup [.int (i : Nat), .str ⟨#[c]⟩])) := e2.trans (Ex.new hp)
      have h3 : upd H' p (.tup [.int (i : Nat), .str ⟨#[c]⟩]) l = some (.lst (vI (octs (x.cps.toList.take i)))) := by rw [upd_ne (Ne.symm hpl)]; exact h2
      have hcl : x.cps.toList[i]? = some c := by rw [Array.getElem?_toList]; exact hc
      have hok : okC c = true := List.all_eq_true.mp hx c (List.mem_of_getElem? hcl)
      have ht : octs (x.cps.toList.take (i + 1)) = octs (x.cps.toList.take i) ++ octC c := by
        rw [List.take_add_one, hcl]
        unfold octs
        rw [List.flatMap_append]
        simp
      have hil : i < x.cps.toList.length := (List.getElem?_eq_some_iff.mp hcl).1
      have hlen : (vI (octs (x.cps.toList.take i))).length ≤ 4000 := by
        rw [List.length_map]
        refine Nat.le_trans (octs_len _) ?_
        rw [List.length_take, Array.length_toList]
        have : x.cps.size ≤ 2000 := hl
        omega
      refine g2 (st_of upd_same) ?_
      refine st_if2 (an_test (vl_eq (vl_var rfl) vl_c rfl)) (fun hb => ?_) fun hb => ?_
      · have ec : c = 10 := nl_eq (of_decide_eq_true hb)
        refine ⟨_, rfl, el_lst (vs := [.int 13, .int 10]) (ea_cons ev_c (ea_cons ev_c ea_nil)) (by decide) _ (Ex.refl _) _ fun b H4 hb4 e4 h4 => ?_⟩
        refine ⟨l, b, _, _, rfl, rfl, e4 l _ h3, h4, by rw [sizeLine_eq]; show _ + 2 ≤ _; omega, ?_⟩
        refine ⟨⟨_, _, rfl⟩, Ex.mut (e3.trans e4) hl0, ?_⟩
        rw [ht, ec]
        rw [upd_same]
        show some (HO.lst (vI _ ++ vI [13, 10])) = _
        rw [← List.map_append] <;> rfl
      · have ec : c ≠ 10 := fun e => by rw [e] at hb; exact absurd (of_decide_eq_false hb) (by simp; rfl)
        have hin : c ∈ chars.cps.toList := by
          unfold okC at hok
          rw [Bool.or_eq_true] at hok
          rcases hok with h | h
          · exact absurd (by simpa using h) ec
          · exact of_decide_eq_true h
        refine st_if2 (an_is (an_test (vl_inSign (vl_var rfl) vl_c)) (decide_eq_true hin)) (fun _ => ?_) fun h => by cases h
        refine s_app (l := l) h3 (ev_var rfl) (ev_call (z := .int (codeI c)) (ea_cons (ev_var rfl) ea_nil) fun H1 _ Q q E => ⟨c, rfl, q H1 (Ex.refl H1)⟩) (by omega) fun H5 e5 => ?_
        refine ⟨⟨_, _, rfl⟩, Ex.mut (e3.trans e5) hl0, ?_⟩
        rw [ht, upd_same]
        unfold octC
        rw [if_neg ec]
        show some (HO.lst (vI _ ++ vI [codeI c])) = _
        rw [← List.map_append]
    · obtain ⟨⟨u, v, rfl⟩, e2, h2⟩ := pv
      refine s_ret (ev_var rfl) fun H3 e3 => ?_
      refine q l H3 hl0 (e2.trans e3) (e3 l _ ?_)
      rw [h2]
      show some (HO.lst (vI (octs (x.cps.toList.take x.cps.size)))) = _
      rw [← Array.length_toList, List.take_length] <;> rfl

end Pw
set_option Elab.async false
set_option linter.all false
set_option maxRecDepth 100000
set_option maxHeartbeats 400000
namespace Pw
open PySem PySem.Spec PyProof.Rows L2 Evl
variable {P : Program} {w : World} {K : PySem.W.Frag} {mg : Str → Option Value} {base : Heap}
/-! ### books -/
def flds (o : Op) : List (Str × V) := [("both", .str o.both), ("lengths", .str o.lengths), ("old_chunked", .str o.old), ("keep_old", .bl o.keep), ("most_line", .int o.line), ("most_fields", .int o.fields), ("most_digits", .int o.digits)]
theorem lk_both (o : Op) : (flds o).lookup ("both" : Str) = some (V.str o.both) := by kernel_rfl
theorem lk_lengths (o : Op) : (flds o).lookup ("lengths" : Str) = some (V.str o.lengths) := by kernel_rfl
theorem lk_old_chunked (o : Op) : (flds o).lookup ("old_chunked" : Str) = some (V.str o.old) := by kernel_rfl
theorem lk_keep_old (o : Op) : (flds o).lookup ("keep_old" : Str) = some (V.bl o.keep) := by kernel_rfl
theorem lk_most_line (o : Op) : (flds o).lookup ("most_line" : Str) = some (V.int o.line) := by kernel_rfl
theorem lk_most_fields (o : Op) : (flds o).lookup ("most_fields" : Str) = some (V.int o.fields) := by kernel_rfl
theorem lk_most_digits (o : Op) : (flds o).lookup ("most_digits" : Str) = some (V.int o.digits) := by kernel_rfl
def Bk (K : PySem.W.Frag) (H : Hp) (a : Addr) (o : Op) : Prop := ∃ dx, H a = some (.ins (He.ga K "Book") dx (flds o))
theorem Bk.ex {H H' : Hp} {a : Addr} {o : Op} (e : Ex H H') (b : Bk K H a o) : Bk K H' a o := let ⟨dx, h⟩ := b; ⟨dx, e a _ h⟩
theorem ev_bk {σ : L2.St} {H : Hp} {ta : TE} {a : Addr} {o : Op} {f : Str} {v : V} (hc : Cls K (He.ga K "Book")) (hn : NoAttr K (He.ga K "Book") f) (h : Ev ta σ H (.ref a)) (b : Bk K H a o) (hl : (flds o).lookup f = some v) : Ev (tFld K ta f) σ H v :=
  let ⟨_, ho⟩ := b
  ev_fld h ho hc hn hl
abbrev s_is_within : Stmt := (top 17)
abbrev sn_is_within : List Str := ["thing", "least", "most"]
theorem sc_is_within : FnScope sn_is_within ["thing", "least", "most"] (defScope s_is_within) := ⟨rfl, rfl, rfl, by decide +kernel, rfl, by decide +kernel, by decide +kernel⟩
def sp_is_within : Sp := fun vs H Q _ => ∃ n a b : Int, vs = [.int n, .int a, .int b] ∧ Q (.bl (decide (a ≤ n) && decide (n ≤ b))) H
theorem ok_is_within (T : Tx K mg) : FnOk P w K mg base CX0 2 (He.fAd K d_is_within.at_) (fdt K d_is_within.at_) ["thing", "least", "most"] sp_is_within :=
  FunD.ok T.F_is_within sc_is_within (fun _ _ _ _ ⟨_, _, _, e, _⟩ => by subst e; rfl) fun cdv A outer s H vs Q E hr ⟨n, a, b, ev, q⟩ => by
    subst ev
    refine ⟨_, PSs.nox (pss_one (ps_ret (pe_and (pe_call (ok_is_integer T) (hr.mono (by decide)) rfl (T.g_is_integer) (T.kp_is_integer) (T.b_is_integer) .nil pass0 (pa_cons (pv 0) pa_nil)) (pe_one (pe_chain op_le op_le (pv 1) (pv 0) (pv 2)))))), ?_⟩
    refine st_ret (v := .bl (true && (decide (a ≤ n) && decide (n ≤ b)))) (vl_andV ?_ fun _ => ?_) ?_
    · exact vl_call (va_cons (vl_var rfl) va_nil) fun Q q => ⟨n, rfl, q⟩
    · exact vl_chainI (p := fun i j => decide (i ≤ j)) (q := fun i j => decide (i ≤ j)) (vl_var rfl) (vl_var rfl) (vl_var rfl)
    · exact q
abbrev s_is_one_of : Stmt := (top 18)
abbrev sn_is_one_of : List Str := ["thing", "words"]
theorem sc_is_one_of : FnScope sn_is_one_of ["thing", "words"] (defScope s_is_one_of) := ⟨rfl, rfl, rfl, by decide +kernel, rfl, by decide +kernel, by decide +kernel⟩
def sp_is_one_of : Sp := fun vs H Q _ => ∃ (x : Str) (p : Addr) (ys : List V), vs = [.str x, .ref p] ∧ SqT K H p ys ∧ ys.all flatV = true ∧ Q (.bl (inV (.str x) ys)) H
theorem ok_is_one_of (T : Tx K mg) : FnOk P w K mg base CX0 1 (He.fAd K d_is_one_of.at_) (fdt K d_is_one_of.at_) ["thing", "words"] (sp_is_one_of (K := K)) :=
  FunD.ok T.F_is_one_of sc_is_one_of (fun _ _ _ _ ⟨_, _, _, e, _⟩ => by subst e; rfl) fun cdv A outer s H vs Q E hr ⟨x, p, ys, ev, hp, hf, q⟩ => by
    subst ev
    refine ⟨_, PSs.nox (pss_one (ps_ret (pe_and (pe_callB call_isi (by rfl) (T.f_isinstance) (by decide +kernel) (pa_cons (pv 0) (pa_cons (pe_bltn (v := .ty "str") (by rfl) (T.f_str) (by decide +kernel) rfl) pa_nil))) (pe_one (pe_cmpR op_in_seq (pv 0) (pv 1) rfl))))), ?_⟩
    refine st_ret (v := .bl (true && inV (.str x) ys)) (vl_andV ?_ fun _ => ?_) ?_
    · exact vl_isi (va_cons (vl_var rfl) (va_cons vl_c va_nil)) (.base (.str x)) (b := true) rfl
    · exact vl_inT (neg := false) (vl_var rfl) (vl_var rfl) (.inr hp) rfl hf
    · exact q
theorem et_oneOf {σ : L2.St} {H : Hp} {ta tb : TE} {E : XK} {x : Str} {ys : List V} {b : Bool} (ha : Ev ta σ H (.str x)) (hb : EvU tb σ H ys) (hi : inV (.str x) ys = b) (hf : ys.all flatV = true) : EvT (tB (tCall (sp_is_one_of (K := K)) [] E (tCons ta (tCons tb tNil)))) σ H b :=
  fun H1 e Q q => ha H1 e _ fun H2 e2 => hb H2 (e.trans e2) _ fun p H3 _ e3 h3 => ⟨x, p, ys, rfl, st_of h3, hf, b, by rw [hi], q H3 (e2.trans e3)⟩
theorem et_within {σ : L2.St} {H : Hp} {ta tb tc : TE} {E : XK} {n a c : Int} (ha : Ev ta σ H (.int n)) (hb : Ev tb σ H (.int a)) (hc : Ev tc σ H (.int c)) (h : a ≤ n ∧ n ≤ c) : EvT (tB (tCall sp_is_within [] E (tCons ta (tCons tb (tCons tc tNil))))) σ H true :=
  et_B (ev_call (ea_cons ha (ea_cons hb (ea_cons hc ea_nil))) fun H1 _ Q q E => ⟨n, a, c, rfl, by rw [decide_eq_true h.1, decide_eq_true h.2]; exact q H1 (Ex.refl H1)⟩)
abbrev s_BookU_initU : Stmt := (inClass (top 19) 0)
abbrev sn_BookU_initU : List Str := ["self", "both", "lengths", "old_chunked", "keep_old", "most_line", "most_fields", "most_digits"]
theorem sc_BookU_initU : FnScope sn_BookU_initU ["self", "both", "lengths", "old_chunked", "keep_old", "most_line", "most_fields", "most_digits"] (defScope s_BookU_initU) := ⟨rfl, rfl, rfl, by decide +kernel, rfl, by decide +kernel, by decide +kernel⟩
def sp_Book : Sp := fun vs H Q _ => ∃ (a dx : Addr) (o : Op), vs = [.ref a, .str o.both, .str o.lengths, .str o.old, .bl o.keep, .int o.line, .int o.fields, .int o.digits] ∧ o.ok ∧ H a = some (.ins (He.ga K "Book") dx []) ∧
  ∀ H', Fr a H H' → H' a = some (.ins (He.ga K "Book") dx (flds o)) → Q .non H'
theorem ok_BookU_initU (T : Tx K mg) : FnOk P w K mg base CX0 3 (He.fAd K d_BookU_initU.at_) (fdt K d_BookU_initU.at_) ["self", "both", "lengths", "old_chunked", "keep_old", "most_line", "most_fields", "most_digits"] (sp_Book (K := K)) :=
  FunD.ok T.F_BookU_initU sc_BookU_initU (fun _ _ _ _ ⟨_, _, _, e, _⟩ => by subst e; rfl) fun cdv A outer s H vs Q E hr ⟨a, dx, o, ev, ho, ha, q⟩ => by
    subst ev
    obtain ⟨h1, h2, h3, h4, h5, h6, h7, h8, h9⟩ := ho
    refine ⟨_, PSs.nox (pss_cons (ps_if (pt_not (pt_val (pe_call (ok_is_one_of T) (hr.mono (by decide)) rfl (T.g_is_one_of) (T.kp_is_one_of) (T.b_is_one_of) .nil pass0 (pa_cons (pv 1) (pa_cons (pe_tup (pa_cons (pe_gs (T.s_REFUSE)) (pa_cons (pe_gs (T.s_CHUNKED_books)) pa_nil))) pa_nil))))) (pss_one ps_never) pss_nil)
      (pss_cons (ps_if (pt_not (pt_val (pe_call (ok_is_one_of T) (hr.mono (by decide)) rfl (T.g_is_one_of) (T.kp_is_one_of) (T.b_is_one_of) .nil pass0 (pa_cons (pv 2) (pa_cons (pe_tup (pa_cons (pe_gs (T.s_REFUSE)) (pa_cons (pe_gs (T.s_EQUAL)) pa_nil))) pa_nil))))) (pss_one ps_never) pss_nil)
      (pss_cons (ps_if (pt_not (pt_val (pe_call (ok_is_one_of T) (hr.mono (by decide)) rfl (T.g_is_one_of) (T.kp_is_one_of) (T.b_is_one_of) .nil pass0 (pa_cons (pv 3) (pa_cons (pe_tup (pa_cons (pe_gs (T.s_REFUSE)) (pa_cons (pe_gs (T.s_ACCEPT)) pa_nil))) pa_nil))))) (pss_one ps_never) pss_nil)
      (pss_cons (ps_if (pt_not (pt_val (pe_callB call_isi (by rfl) (T.f_isinstance) (by decide +kernel) (pa_cons (pv 4) (pa_cons (pe_bltn (v := .ty "bool") (by rfl) (T.f_bool) (by decide +kernel) rfl) pa_nil))))) (pss_one ps_never) pss_nil)
      (pss_cons (ps_if (pt_not (pt_val (pe_call (ok_is_within T) (hr.mono (by decide)) rfl (T.g_is_within) (T.kp_is_within) (T.b_is_within) .nil pass0 (pa_cons (pv 5) (pa_cons pe_int (pa_cons pe_int pa_nil)))))) (pss_one ps_never) pss_nil)
      (pss_cons (ps_if (pt_not (pt_val (pe_call (ok_is_within T) (hr.mono (by decide)) rfl (T.g_is_within) (T.kp_is_within) (T.b_is_within) .nil pass0 (pa_cons (pv 6) (pa_cons pe_int (pa_cons pe_int pa_nil)))))) (pss_one ps_never) pss_nil)
      (pss_cons (ps_if (pt_not (pt_val (pe_call (ok_is_within T) (hr.mono (by decide)) rfl (T.g_is_within) (T.kp_is_within) (T.b_is_within) .nil pass0 (pa_cons (pv 7) (pa_cons pe_int (pa_cons pe_int pa_nil)))))) (pss_one ps_never) pss_nil)
      (pss_cons (ps_fld (pv 0) (pv 1) rfl)
      (pss_cons (ps_fld (pv 0) (pv 2) rfl)
      (pss_cons (ps_fld (pv 0) (pv 3) rfl)
      (pss_cons (ps_fld (pv 0) (pv 4) rfl)
      (pss_cons (ps_fld (pv 0) (pv 5) rfl)
      (pss_cons (ps_fld (pv 0) (pv 6) rfl)
      (pss_one (ps_fld (pv 0) (pv 7) rfl))))))))))))))), ?_⟩
    refine q_when (et_not (et_oneOf (b := true) (ev_var rfl) (eu_tup (ea_cons ev_c (ea_cons ev_c ea_nil)) (by show 2 ≤ _; decide)) (by rcases h1 with e | e <;> rw [e] <;> kernel_rfl) rfl)) (fun h => by cases h) fun _ H1 e1 => ?_
    refine q_when (et_not (et_oneOf (b := true) (ev_var rfl) (eu_tup (ea_cons ev_c (ea_cons ev_c ea_nil)) (by show 2 ≤ _; decide)) (by rcases h2 with e | e <;> rw [e] <;> kernel_rfl) rfl)) (fun h => by cases h) fun _ H2 e2 => ?_
    refine q_when (et_not (et_oneOf (b := true) (ev_var rfl) (eu_tup (ea_cons ev_c (ea_cons ev_c ea_nil)) (by show 2 ≤ _; decide)) (by rcases h3 with e | e <;> rw [e] <;> kernel_rfl) rfl)) (fun h => by cases h) fun _ H3 e3 => ?_
    refine v_when (an_not (an_B (vl_isi (va_cons (vl_var rfl) (va_cons vl_c va_nil)) (.base (.bl o.keep)) (b := true) rfl))) (fun h => by cases h) fun _ => ?_
    refine q_when (et_not (et_within (ev_var rfl) ev_c ev_c ⟨h4, h5⟩)) (fun h => by cases h) fun _ H4 e4 => ?_
    refine q_when (et_not (et_within (ev_var rfl) ev_c ev_c ⟨h6, h7⟩)) (fun h => by cases h) fun _ H5 e5 => ?_
    refine q_when (et_not (et_within (ev_var rfl) ev_c ev_c ⟨h8, h9⟩)) (fun h => by cases h) fun _ H6 e6 => ?_
    have e : Ex H H6 := (((e1.trans e2).trans e3).trans e4).trans (e5.trans e6)
    have g0 := e a _ ha
    refine q_fld (fs' := (flds o).take 1) (ev_var rfl) (ev_var rfl) g0 T.c_Book T.na_Book_both (fun K1 f1 => ?_) (hz := by show 0 ≤ 900; decide)
    refine q_fld (fs' := (flds o).take 2) (ev_var rfl) (ev_var rfl) upd_same T.c_Book T.na_Book_lengths (fun K2 f2 => ?_) (hz := by show 1 ≤ 900; decide)
    refine q_fld (fs' := (flds o).take 3) (ev_var rfl) (ev_var rfl) upd_same T.c_Book T.na_Book_old_chunked (fun K3 f3 => ?_) (hz := by show 2 ≤ 900; decide)
    refine q_fld (fs' := (flds o).take 4) (ev_var rfl) (ev_var rfl) upd_same T.c_Book T.na_Book_keep_old (fun K4 f4 => ?_) (hz := by show 3 ≤ 900; decide)
    refine q_fld (fs' := (flds o).take 5) (ev_var rfl) (ev_var rfl) upd_same T.c_Book T.na_Book_most_line (fun K5 f5 => ?_) (hz := by show 4 ≤ 900; decide)
    refine q_fld (fs' := (flds o).take 6) (ev_var rfl) (ev_var rfl) upd_same T.c_Book T.na_Book_most_fields (fun K6 f6 => ?_) (hz := by show 5 ≤ 900; decide)
    refine (s_fld (fs' := (flds o).take 7) (ev_var rfl) (ev_var rfl) upd_same T.c_Book T.na_Book_most_digits (fun K7 f7 => ?_) (hz := by show 6 ≤ 900; decide))
    refine q _ ?_ ?_
    · exact Fr.upd (Fr.trans (Fr.upd (Fr.trans (Fr.upd (Fr.trans (Fr.upd (Fr.trans (Fr.upd (Fr.trans (Fr.upd (Fr.trans (Fr.upd (Fr.trans (Fr.of e) (Fr.of f1))) (Fr.of f2))) (Fr.of f3))) (Fr.of f4))) (Fr.of f5))) (Fr.of f6))) (Fr.of f7))
    · rw [upd_same] <;> rfl
end Pw
set_option Elab.async false
set_option linter.all false
set_option maxRecDepth 100000
set_option maxHeartbeats 400000
namespace Pw
open PySem PySem.Spec PyProof.Rows L2 Evl
variable {P : Program} {w : World} {K : PySem.W.Frag} {mg : Str → Option Value} {base : Heap}
/-! ### the data that part two books -/
def mn (i j : Int) : Int := if j < i then j else i
theorem mn_comm (i j : Int) : mn i j = mn j i := by unfold mn; split <;> split <;> omega
def msg (x : Str) : List Int := [33, 9, 33, 9] ++ octI x
def tBoth (o n : Str) : Str := if o = "accept" ∧ n = "accept" then "HTTP/1.0\nCONTENT-LENGTH:0\nTRANSFER-ENCODING:CHUNKED\n\n" else "HTTP/1.1\nCONTENT-LENGTH:0\nTRANSFER-ENCODING:CHUNKED\n\n"
def tFields (n : Int) : Str := "HTTP/1.0\n" ++ repS "!:\n" n.toNat
def tDigits (n : Int) : Str := "HTTP/1.0\n" ++ ("CONTENT-LENGTH:" ++ repS "0" n.toNat ++ "\n\n")
def d1 (a b : Op) : List Int := msg (tBoth a.old b.old)
def d2 : List Int := msg "HTTP/1.0\nCONTENT-LENGTH:0,0\n\n"
def d3 : List Int := msg "HTTP/1.0\nTRANSFER-ENCODING:CHUNKED\n\n"
def d4 : List Int := msg "HTTP/1.0\nCONNECTION:KEEP-ALIVE\n\n" ++ [0]
def d5 (a b : Op) : List Int := List.replicate (mn a.line b.line + 1).toNat 9
def d6 (a b : Op) : List Int := msg (tFields (mn a.fields b.fields + 1))
def d7 (a b : Op) : List Int := msg (tDigits (mn a.digits b.digits + 1))
def unl (a b : Op) : List (List Int) := ((((((([] ++ if (!decide (V.str a.both = V.str b.both)) = true then [d1 a b] else []) ++ if (!decide (V.str a.lengths = V.str b.lengths)) = true then [d2] else [])
  ++ if (!decide (V.str a.old = V.str b.old)) = true then [d3] else []) ++ if (!decide (V.bl a.keep = V.bl b.keep)) = true then [d4] else []) ++ if (!decide (V.int a.line = V.int b.line)) = true then [d5 a b] else [])
  ++ if (!decide (V.int a.fields = V.int b.fields)) = true then [d6 a b] else []) ++ if (!decide (V.int a.digits = V.int b.digits)) = true then [d7 a b] else [])
theorem okS_app {x y : Str} (hx : okS x) (hy : okS y) : okS (x ++ y) := by
  unfold okS at *
  show ((x.cps ++ y.cps).toList).all okC = true
  rw [Array.toList_append, List.all_append, hx, hy] <;> rfl
theorem okS_rep {x : Str} (hx : okS x) (n : Nat) : okS (repS x n) := by
  unfold okS at *
  rw [repS_cps, List.all_eq_true]
  intro c hc
  obtain ⟨l, hl, hc⟩ := List.mem_flatten.mp hc
  rw [List.eq_of_mem_replicate hl] at hc
  exact List.all_eq_true.mp hx c hc
theorem len_app (x y : Str) : (x ++ y).length = x.length + y.length := by
  show (x.cps ++ y.cps).size = _
  rw [Array.size_append] <;> rfl
theorem mn_le {i j m : Int} (hi : i ≤ m) (hj : j ≤ m) : mn i j ≤ m := by unfold mn; split <;> omega
theorem mn_ge {i j m : Int} (hi : m ≤ i) (hj : m ≤ j) : m ≤ mn i j := by unfold mn; split <;> omega
abbrev s_message : Stmt := (top 31)
abbrev sn_message : List Str := ["version", "rest"]
theorem sc_message : FnScope sn_message ["version", "rest"] (defScope s_message) := ⟨rfl, rfl, rfl, by decide +kernel, rfl, by decide +kernel, by decide +kernel⟩
def sp_message : Sp := fun vs H Q _ => ∃ v r : Str, vs = [.str v, .str r] ∧ okS (v ++ r) ∧ (v ++ r).length ≤ 2000 ∧ RetL (vI (msg (v ++ r))) H Q
theorem ok_message (T : Tx K mg) : FnOk P w K mg base CX0 4 (He.fAd K d_message.at_) (fdt K d_message.at_) ["version", "rest"] sp_message :=
  FunD.ok T.F_message sc_message (fun _ _ _ _ ⟨_, _, e, _⟩ => by subst e; rfl) fun cdv A outer s H vs Q E hr ⟨v, r, ev, hx, hl, q⟩ => by
    subst ev
    refine ⟨_, PSs.nox (pss_one (ps_ret (pe_lst (pa_cons (pe_gi (T.i_MARK)) (pa_cons (pe_gi (T.i_TAB)) (pa_cons (pe_gi (T.i_MARK)) (pa_cons (pe_gi (T.i_TAB)) (StX.pa_star (pe_call (ok_octets T) (hr.mono (by decide)) rfl (T.g_octets) (T.kp_octets) (T.b_octets) .nil pass0 (pa_cons (pe_op op_add_str (pv 0) (pv 1)) pa_nil)) pa_nil)))))))), ?_⟩
    have h1 := len_app v r
    have h2 : (vI (octI (v ++ r))).length ≤ 4000 := by
      rw [List.length_map]
      have a := octs_len (v ++ r).cps.toList
      have b : (v ++ r).cps.toList.length = (v ++ r).length := by rw [Array.length_toList] <;> rfl
      unfold octI
      omega
    have el : EvL (tCall sp_octets [] E0 (tCons (tOp (fun x y H Q => ∃ i j, x = .str i ∧ y = .str j ∧ i.length + j.length ≤ sizeLine ∧ Q (.str (i ++ j)) H) (tVar 0) (tVar 1)) tNil)) (L2.start sn_message [.str v, .str r]) H (vI (octI (v ++ r))) :=
      el_call (vs := [.str (v ++ r)]) (ea_cons (ev_str (ev_var rfl) (ev_var rfl) (by omega)) ea_nil) fun H1 e1 Q1 q1 E1 => ⟨v ++ r, rfl, hx, hl, q1⟩
    refine s_retL (el_is (el_lst (ea_cons ev_c (ea_cons ev_c (ea_cons ev_c (ea_cons ev_c (ea_starL el ea_nil))))) ?_) ?_) fun p H1 hp e1 h1 => q p H1 hp e1 h1
    · rw [List.append_nil]
      simp only [List.length_cons]
      omega
    · rw [List.append_nil] <;> rfl
/-- a call of it -/
theorem el_message {σ : L2.St} {H : Hp} {ta tb : TE} {v r x : Str} (ha : Ev ta σ H (.str v)) (hb : Ev tb σ H (.str r)) (e : v ++ r = x) (h1 : okS x) (h2 : x.length ≤ 2000) : EvL (tCall sp_message [] E0 (tCons ta (tCons tb tNil))) σ H (vI (msg x)) :=
  el_call (vs := [.str v, .str r]) (ea_cons ha (ea_cons hb ea_nil)) fun H1 e1 Q1 q1 E1 => ⟨v, r, rfl, e.symm ▸ h1, e.symm ▸ h2, e.symm ▸ q1⟩
end Pw
set_option Elab.async false
set_option linter.all false
set_option maxRecDepth 100000
set_option maxHeartbeats 400000
namespace Pw
open PySem PySem.Spec PyProof.Rows L2 Evl
variable {P : Program} {w : World} {K : PySem.W.Frag} {mg : Str → Option Value} {base : Heap}
theorem ev_minL (T : Tx K mg) {σ : L2.St} {H : Hp} {ta tb : TE} {a b : Addr} {o n : Op} (ha : Ev ta σ H (.ref a)) (hb : Ev tb σ H (.ref b)) (h1 : Bk K H a o) (h2 : Bk K H b n) :
    Ev (tCB (fun xs H Q => ∃ i j, xs = [.int i, .int j] ∧ Q (.int (if j < i then j else i)) H) (tCons (tFld K ta "most_line") (tCons (tFld K tb "most_line") tNil))) σ H (.int (mn o.line n.line)) := ev_min2 (ev_bk T.c_Book T.na_Book_most_line ha h1 (lk_most_line _)) (ev_bk T.c_Book T.na_Book_most_line hb h2 (lk_most_line _))
theorem ev_minF (T : Tx K mg) {σ : L2.St} {H : Hp} {ta tb : TE} {a b : Addr} {o n : Op} (ha : Ev ta σ H (.ref a)) (hb : Ev tb σ H (.ref b)) (h1 : Bk K H a o) (h2 : Bk K H b n) :
    Ev (tCB (fun xs H Q => ∃ i j, xs = [.int i, .int j] ∧ Q (.int (if j < i then j else i)) H) (tCons (tFld K ta "most_fields") (tCons (tFld K tb "most_fields") tNil))) σ H (.int (mn o.fields n.fields)) := ev_min2 (ev_bk T.c_Book T.na_Book_most_fields ha h1 (lk_most_fields _)) (ev_bk T.c_Book T.na_Book_most_fields hb h2 (lk_most_fields _))
theorem ev_minD (T : Tx K mg) {σ : L2.St} {H : Hp} {ta tb : TE} {a b : Addr} {o n : Op} (ha : Ev ta σ H (.ref a)) (hb : Ev tb σ H (.ref b)) (h1 : Bk K H a o) (h2 : Bk K H b n) :
    Ev (tCB (fun xs H Q => ∃ i j, xs = [.int i, .int j] ∧ Q (.int (if j < i then j else i)) H) (tCons (tFld K ta "most_digits") (tCons (tFld K tb "most_digits") tNil))) σ H (.int (mn o.digits n.digits)) := ev_min2 (ev_bk T.c_Book T.na_Book_most_digits ha h1 (lk_most_digits _)) (ev_bk T.c_Book T.na_Book_most_digits hb h2 (lk_most_digits _))
/-- two books in, a list out -/
def spB (K : PySem.W.Frag) (d : Op → Op → List Int) : Sp := fun vs H Q _ => ∃ (a b : Addr) (o n : Op), vs = [.ref a, .ref b] ∧ Bk K H a o ∧ Bk K H b n ∧ o.ok ∧ n.ok ∧ RetL (vI (d o n)) H Q
theorem el_B {σ : L2.St} {H : Hp} {d : Op → Op → List Int} {ta tb : TE} {a b : Addr} {o n : Op} (ha : Ev ta σ H (.ref a)) (hb : Ev tb σ H (.ref b)) (h1 : Bk K H a o) (h2 : Bk K H b n) (k1 : o.ok) (k2 : n.ok) : EvL (tCall (spB K d) [] E0 (tCons ta (tCons tb tNil))) σ H (vI (d o n)) :=
  el_call (vs := [.ref a, .ref b]) (ea_cons ha (ea_cons hb ea_nil)) fun H1 e1 Q1 q1 E1 => ⟨a, b, o, n, rfl, h1.ex e1, h2.ex e1, k1, k2, q1⟩
abbrev s_long_line : Stmt := (top 32)
abbrev sn_long_line : List Str := ["one", "other"]
theorem sc_long_line : FnScope sn_long_line ["one", "other"] (defScope s_long_line) := ⟨rfl, rfl, rfl, by decide +kernel, rfl, by decide +kernel, by decide +kernel⟩
theorem ok_long_line (T : Tx K mg) : FnOk P w K mg base CX0 1 (He.fAd K d_long_line.at_) (fdt K d_long_line.at_) ["one", "other"] (spB K d5) :=
  FunD.ok T.F_long_line sc_long_line (fun _ _ _ _ ⟨_, _, _, _, e, _⟩ => by subst e; rfl) fun cdv A outer s H vs Q E hr ⟨a, b, o, n, ev, h1, h2, k1, k2, q⟩ => by
    subst ev
    obtain ⟨_, _, _, o1, o2, o3, o4, o5, o6⟩ := k1
    obtain ⟨_, _, _, n1, n2, n3, n4, n5, n6⟩ := k2
    have g1 := mn_ge o1 n1
    have g2 := mn_le o2 n2
    refine ⟨_, PSs.nox (pss_one (ps_ret (pe_op op_rep (pe_lst (pa_cons (pe_gi (T.i_TAB)) pa_nil)) (pe_op op_add (pe_callB (call_min2 rfl) (by rfl) (T.f_min) (by decide +kernel) (pa_cons (pe_fld (pv 0) rfl) (pa_cons (pe_fld (pv 1) rfl) pa_nil))) pe_int)))), ?_⟩
    refine s_retL (el_is (el_rep (k := mn o.line n.line + 1) (el_lst (ea_cons ev_c ea_nil) (by show 1 ≤ _; decide)) (fun H1 e1 => ev_I0 (ev_minL T (ev_var rfl) (ev_var rfl) (h1.ex e1) (h2.ex e1)) ev_c) (by omega) (by omega) ?_) ?_) fun p H1 hp e1 h1 => q p H1 hp e1 h1
    · show 1 * _ ≤ _
      omega
    · unfold d5 vI
      rw [List.map_replicate]
      generalize (mn o.line n.line + 1).toNat = m
      induction m with
      | zero => rfl
      | succ m ih => rw [List.replicate_succ, List.replicate_succ, List.flatten_cons, ih] <;> rfl
abbrev s_many_fields : Stmt := (top 33)
abbrev sn_many_fields : List Str := ["one", "other"]
theorem sc_many_fields : FnScope sn_many_fields ["one", "other"] (defScope s_many_fields) := ⟨rfl, rfl, rfl, by decide +kernel, rfl, by decide +kernel, by decide +kernel⟩
theorem ok_many_fields (T : Tx K mg) : FnOk P w K mg base CX0 5 (He.fAd K d_many_fields.at_) (fdt K d_many_fields.at_) ["one", "other"] (spB K d6) :=
  FunD.ok T.F_many_fields sc_many_fields (fun _ _ _ _ ⟨_, _, _, _, e, _⟩ => by subst e; rfl) fun cdv A outer s H vs Q E hr ⟨a, b, o, n, ev, h1, h2, k1, k2, q⟩ => by
    subst ev
    obtain ⟨_, _, _, o1, o2, o3, o4, o5, o6⟩ := k1
    obtain ⟨_, _, _, n1, n2, n3, n4, n5, n6⟩ := k2
    have g1 := mn_ge o3 n3
    have g2 := mn_le o4 n4
    refine ⟨_, PSs.nox (pss_one (ps_ret (pe_call (ok_message T) (hr.mono (by decide)) rfl (T.g_message) (T.kp_message) (T.b_message) .nil pass0 (pa_cons (pe_gs (T.s_OLD)) (pa_cons (pe_op op_mul_str (pe_gs (T.s_LEAST_FIELD)) (pe_op op_add (pe_callB (call_min2 rfl) (by rfl) (T.f_min) (by decide +kernel) (pa_cons (pe_fld (pv 0) rfl) (pa_cons (pe_fld (pv 1) rfl) pa_nil))) pe_int)) pa_nil))))), ?_⟩
    refine s_retL (el_message ev_c (ev_mulS (k := mn o.fields n.fields + 1) ev_c (ev_I0 (ev_minF T (ev_var rfl) (ev_var rfl) h1 h2) ev_c) (by omega) (by omega) (by decide)) rfl ?_ ?_) fun p H1 hp e1 h1 => q p H1 hp e1 h1
    · exact okS_app (by decide +kernel) (okS_rep (by decide +kernel) _)
    · rw [len_app, repS_len]
      have e1 : ("HTTP/1.0\n" : Str).length = 9 := by decide +kernel
      have e2 : ("!:\n" : Str).length = 3 := by decide +kernel
      rw [e1, e2]
      omega
abbrev s_many_digits : Stmt := (top 34)
abbrev sn_many_digits : List Str := ["one", "other"]
theorem sc_many_digits : FnScope sn_many_digits ["one", "other"] (defScope s_many_digits) := ⟨rfl, rfl, rfl, by decide +kernel, rfl, by decide +kernel, by decide +kernel⟩
theorem ok_many_digits (T : Tx K mg) : FnOk P w K mg base CX0 5 (He.fAd K d_many_digits.at_) (fdt K d_many_digits.at_) ["one", "other"] (spB K d7) :=
  FunD.ok T.F_many_digits sc_many_digits (fun _ _ _ _ ⟨_, _, _, _, e, _⟩ => by subst e; rfl) fun cdv A outer s H vs Q E hr ⟨a, b, o, n, ev, h1, h2, k1, k2, q⟩ => by
    subst ev
    obtain ⟨_, _, _, o1, o2, o3, o4, o5, o6⟩ := k1
    obtain ⟨_, _, _, n1, n2, n3, n4, n5, n6⟩ := k2
    have g1 := mn_ge o5 n5
    have g2 := mn_le o6 n6
    have e1 : ("HTTP/1.0\n" : Str).length = 9 := by decide +kernel
    have e2 : ("CONTENT-LENGTH:" : Str).length = 15 := by decide +kernel
    have e3 : ("0" : Str).length = 1 := by decide +kernel
    have e4 : ("\n\n" : Str).length = 2 := by decide +kernel
    refine ⟨_, PSs.nox (pss_one (ps_ret (pe_call (ok_message T) (hr.mono (by decide)) rfl (T.g_message) (T.kp_message) (T.b_message) .nil pass0 (pa_cons (pe_gs (T.s_OLD)) (pa_cons (pe_op op_add_str (pe_op op_add_str (pe_gs (T.s_LENGTH)) (pe_op op_mul_str pe_str (pe_op op_add (pe_callB (call_min2 rfl) (by rfl) (T.f_min) (by decide +kernel) (pa_cons (pe_fld (pv 0) rfl) (pa_cons (pe_fld (pv 1) rfl) pa_nil))) pe_int))) pe_str) pa_nil))))), ?_⟩
    refine s_retL (el_message ev_c (ev_str (ev_str ev_c (ev_mulS (k := mn o.digits n.digits + 1) ev_c (ev_I0 (ev_minD T (ev_var rfl) (ev_var rfl) h1 h2) ev_c) (by omega) (by omega) (by decide)) ?_) ev_c ?_) rfl ?_ ?_) fun p H1 hp e1 h1 => q p H1 hp e1 h1
    · rw [repS_len, e2, e3]
      omega
    · rw [len_app, repS_len, e2, e3, e4]
      omega
    · exact okS_app (by decide +kernel) (okS_app (okS_app (by decide +kernel) (okS_rep (by decide +kernel) _)) (by decide +kernel))
    · rw [len_app, len_app, len_app, repS_len, e1, e2, e3, e4]
      omega
end Pw
set_option Elab.async false
set_option linter.all false
set_option maxRecDepth 100000
set_option maxHeartbeats 400000
namespace Pw
open PySem PySem.Spec PyProof.Rows L2 Evl
variable {P : Program} {w : World} {K : PySem.W.Frag} {mg : Str → Option Value} {base : Heap}
abbrev s_both_names : Stmt := (top 35)
abbrev sn_both_names : List Str := ["one", "other", "version"]
theorem sc_both_names : FnScope sn_both_names ["one", "other"] (defScope s_both_names) := ⟨rfl, rfl, rfl, by decide +kernel, rfl, by decide +kernel, by decide +kernel⟩
theorem okAll {x : Str} (h : (x.cps.toList.all okC && decide (x.length ≤ 2000)) = true) : okS x ∧ x.length ≤ 2000 := by
  rw [Bool.and_eq_true] at h
  exact ⟨h.1, of_decide_eq_true h.2⟩
theorem tBoth_ok (o n : Str) : okS (tBoth o n) ∧ (tBoth o n).length ≤ 2000 := by
  unfold tBoth
  split
  · exact okAll (by decide +kernel)
  · exact okAll (by decide +kernel)
theorem ok_both_names (T : Tx K mg) : FnOk P w K mg base CX0 5 (He.fAd K d_both_names.at_) (fdt K d_both_names.at_) ["one", "other"] (spB K d1) :=
  FunD.ok T.F_both_names sc_both_names (fun _ _ _ _ ⟨_, _, _, _, e, _⟩ => by subst e; rfl) fun cdv A outer s H vs Q E hr ⟨a, b, o, n, ev, h1, h2, k1, k2, q⟩ => by
    subst ev
    refine ⟨_, PSs.nox (pss_cons (ps_set (i := 2) sc_both_names.nd rfl (Or.inl rfl) (pe_ifExp (pt_chain op_eq op_eq (pe_fld (pv 0) rfl) (pe_fld (pv 1) rfl) pe_str) (pe_gs (T.s_OLD)) (pe_gs (T.s_NEW))))
      (pss_one (ps_ret (pe_call (ok_message T) (hr.mono (by decide)) rfl (T.g_message) (T.kp_message) (T.b_message) .nil pass0 (pa_cons (pv 2) (pa_cons (pe_op op_add_str (pe_op op_add_str (pe_op op_add_str (pe_gs (T.s_LENGTH)) pe_str) (pe_gs (T.s_CHUNKED_partings))) pe_str) pa_nil)))))), ?_⟩
    have hv : EvT (tTest (tChain rEq rEq (tFld K (tVar 0) "old_chunked") (tFld K (tVar 1) "old_chunked") (tC (.str "accept")))) (L2.start sn_both_names [.ref a, .ref b]) H (decide (V.str o.old = V.str n.old) && decide (V.str n.old = V.str "accept")) :=
      et_test (ev_chainEq (ev_bk T.c_Book T.na_Book_old_chunked (ev_var rfl) h1 (lk_old_chunked _)) (ev_bk T.c_Book T.na_Book_old_chunked (ev_var rfl) h2 (lk_old_chunked _)) ev_c rfl rfl)
    refine q_asg (v := .str (if o.old = "accept" ∧ n.old = "accept" then "HTTP/1.0\n" else "HTTP/1.1\n")) (ev_if hv (fun hb => ev_is ev_c ?_) fun hb => ev_is ev_c ?_) fun H1 e1 => ?_
    · rw [Bool.and_eq_true] at hb
      have e2 : n.old = "accept" := by injection (of_decide_eq_true hb.2)
      have e1 : o.old = "accept" := by
        have : o.old = n.old := by injection (of_decide_eq_true hb.1)
        rw [this, e2]
      rw [if_pos ⟨e1, e2⟩]
    · rw [if_neg]
      rintro ⟨e1, e2⟩
      rw [e1, e2, decide_eq_true rfl] at hb
      cases hb
    · refine s_retL (el_message (x := tBoth o.old n.old) (ev_var rfl) (ev_str (ev_str (ev_str ev_c ev_c ?_) ev_c ?_) ev_c ?_) ?_ (tBoth_ok _ _).1 (tBoth_ok _ _).2) fun p H2 hp e2 h2 => q p H2 (fresh_back e1 hp) (e1.trans e2) h2
      · decide +kernel
      · decide +kernel
      · decide +kernel
      · unfold tBoth
        split <;> kernel_rfl
abbrev s_unlike_data : Stmt := (top 36)
abbrev sn_unlike_data : List Str := ["one", "other", "found"]
theorem sc_unlike_data : FnScope sn_unlike_data ["one", "other"] (defScope s_unlike_data) := ⟨rfl, rfl, rfl, by decide +kernel, rfl, by decide +kernel, by decide +kernel⟩
def sp_unlike : Sp := fun vs H Q _ => ∃ (a b : Addr) (o n : Op), vs = [.ref a, .ref b] ∧ Bk K H a o ∧ Bk K H b n ∧ o.ok ∧ n.ok ∧ ∀ l H', Fd H l (unl o n) H' → Q (.ref l) H'
theorem if_len {α : Type} (b : Bool) (d : α) : (if b = true then [d] else []).length ≤ 1 := by cases b <;> simp
theorem ok_unlike_data (T : Tx K mg) : FnOk P w K mg base CX0 6 (He.fAd K d_unlike_data.at_) (fdt K d_unlike_data.at_) ["one", "other"] (sp_unlike (K := K)) :=
  FunD.ok T.F_unlike_data sc_unlike_data (fun _ _ _ _ ⟨_, _, _, _, e, _⟩ => by subst e; rfl) fun cdv A outer s H vs Q E hr ⟨a, b, o, n, ev, h1, h2, k1, k2, q⟩ => by
    subst ev
    refine ⟨_, PSs.nox (pss_cons (ps_set (i := 2) sc_unlike_data.nd rfl (Or.inl rfl) (pe_lst pa_nil))
      (Evl.pss_cut (ps_if (pt_cmpR op_ne (pe_fld (pv 0) rfl) (pe_fld (pv 1) rfl) (nomark _)) (pss_one (ps_expr (pe_bm PySem.F.plainAttrs_list PySem.F.slot_list_append PySem.F.type_list_append mt_append (pv 2) (pa_cons (pe_call (ok_both_names T) (hr.mono (by decide)) rfl (T.g_both_names) (T.kp_both_names) (T.b_both_names) .nil pass0 (pa_cons (pv 0) (pa_cons (pv 1) pa_nil))) pa_nil)))) pss_nil)
      (Evl.pss_cut (ps_if (pt_cmpR op_ne (pe_fld (pv 0) rfl) (pe_fld (pv 1) rfl) (nomark _)) (pss_one (ps_expr (pe_bm PySem.F.plainAttrs_list PySem.F.slot_list_append PySem.F.type_list_append mt_append (pv 2) (pa_cons (pe_call (ok_message T) (hr.mono (by decide)) rfl (T.g_message) (T.kp_message) (T.b_message) .nil pass0 (pa_cons (pe_gs (T.s_OLD)) (pa_cons (pe_op op_add_str (pe_gs (T.s_LENGTH)) pe_str) pa_nil))) pa_nil)))) pss_nil)
      (Evl.pss_cut (ps_if (pt_cmpR op_ne (pe_fld (pv 0) rfl) (pe_fld (pv 1) rfl) (nomark _)) (pss_one (ps_expr (pe_bm PySem.F.plainAttrs_list PySem.F.slot_list_append PySem.F.type_list_append mt_append (pv 2) (pa_cons (pe_call (ok_message T) (hr.mono (by decide)) rfl (T.g_message) (T.kp_message) (T.b_message) .nil pass0 (pa_cons (pe_gs (T.s_OLD)) (pa_cons (pe_op op_add_str (pe_gs (T.s_CHUNKED_partings)) pe_str) pa_nil))) pa_nil)))) pss_nil)
      (Evl.pss_cut (ps_if (pt_cmpR op_ne (pe_fld (pv 0) rfl) (pe_fld (pv 1) rfl) (nomark _)) (pss_one (ps_expr (pe_bm PySem.F.plainAttrs_list PySem.F.slot_list_append PySem.F.type_list_append mt_append (pv 2) (pa_cons (pe_lst (StX.pa_star (pe_call (ok_message T) (hr.mono (by decide)) rfl (T.g_message) (T.kp_message) (T.b_message) .nil pass0 (pa_cons (pe_gs (T.s_OLD)) (pa_cons (pe_gs (T.s_KEPT)) pa_nil))) (pa_cons (pe_gi (T.i_LEAST)) pa_nil))) pa_nil)))) pss_nil)
      (Evl.pss_cut (ps_if (pt_cmpR op_ne (pe_fld (pv 0) rfl) (pe_fld (pv 1) rfl) (nomark _)) (pss_one (ps_expr (pe_bm PySem.F.plainAttrs_list PySem.F.slot_list_append PySem.F.type_list_append mt_append (pv 2) (pa_cons (pe_call (ok_long_line T) (hr.mono (by decide)) rfl (T.g_long_line) (T.kp_long_line) (T.b_long_line) .nil pass0 (pa_cons (pv 0) (pa_cons (pv 1) pa_nil))) pa_nil)))) pss_nil)
      (Evl.pss_cut (ps_if (pt_cmpR op_ne (pe_fld (pv 0) rfl) (pe_fld (pv 1) rfl) (nomark _)) (pss_one (ps_expr (pe_bm PySem.F.plainAttrs_list PySem.F.slot_list_append PySem.F.type_list_append mt_append (pv 2) (pa_cons (pe_call (ok_many_fields T) (hr.mono (by decide)) rfl (T.g_many_fields) (T.kp_many_fields) (T.b_many_fields) .nil pass0 (pa_cons (pv 0) (pa_cons (pv 1) pa_nil))) pa_nil)))) pss_nil)
      (Evl.pss_cut (ps_if (pt_cmpR op_ne (pe_fld (pv 0) rfl) (pe_fld (pv 1) rfl) (nomark _)) (pss_one (ps_expr (pe_bm PySem.F.plainAttrs_list PySem.F.slot_list_append PySem.F.type_list_append mt_append (pv 2) (pa_cons (pe_call (ok_many_digits T) (hr.mono (by decide)) rfl (T.g_many_digits) (T.kp_many_digits) (T.b_many_digits) .nil pass0 (pa_cons (pv 0) (pa_cons (pv 1) pa_nil))) pa_nil)))) pss_nil)
      (pss_one (ps_ret (pv 2))))))))))), ?_⟩
    refine q_asgL (el_lst ea_nil (by decide)) fun l H1 hl0 e1 h => ?_
    have f0 : Fd H l [] H1 := .start hl0 e1 h
    have z0 : ([] : List (List Int)).length ≤ 0 := Nat.le_refl _
    refine fd_if (d := d1 o n) f0 rfl (et_test (ev_ne (ev_bk T.c_Book T.na_Book_both (ev_var rfl) (h1.ex f0.2.1) (lk_both _)) (ev_bk T.c_Book T.na_Book_both (ev_var rfl) (h2.ex f0.2.1) (lk_both _)) rfl)) (fun _ K1 g => el_B (ev_var rfl) (ev_var rfl) (h1.ex (f0.2.1.trans g)) (h2.ex (f0.2.1.trans g)) k1 k2) z0 fun H2 f1 z1 => ?_
    refine fd_if (d := d2) f1 rfl (et_test (ev_ne (ev_bk T.c_Book T.na_Book_lengths (ev_var rfl) (h1.ex f1.2.1) (lk_lengths _)) (ev_bk T.c_Book T.na_Book_lengths (ev_var rfl) (h2.ex f1.2.1) (lk_lengths _)) rfl)) (fun _ K1 g => el_message (x := "HTTP/1.0\nCONTENT-LENGTH:0,0\n\n") ev_c (ev_str ev_c ev_c (by decide +kernel)) (by kernel_rfl) (by decide +kernel) (by decide +kernel)) z1 fun H3 f2 z2 => ?_
    refine fd_if (d := d3) f2 rfl (et_test (ev_ne (ev_bk T.c_Book T.na_Book_old_chunked (ev_var rfl) (h1.ex f2.2.1) (lk_old_chunked _)) (ev_bk T.c_Book T.na_Book_old_chunked (ev_var rfl) (h2.ex f2.2.1) (lk_old_chunked _)) rfl)) (fun _ K1 g => el_message (x := "HTTP/1.0\nTRANSFER-ENCODING:CHUNKED\n\n") ev_c (ev_str ev_c ev_c (by decide +kernel)) (by kernel_rfl) (by decide +kernel) (by decide +kernel)) z2 fun H4 f3 z3 => ?_
    refine fd_if (d := d4) f3 rfl (et_test (ev_ne (ev_bk T.c_Book T.na_Book_keep_old (ev_var rfl) (h1.ex f3.2.1) (lk_keep_old _)) (ev_bk T.c_Book T.na_Book_keep_old (ev_var rfl) (h2.ex f3.2.1) (lk_keep_old _)) rfl)) (fun _ K1 g => el_is (el_lst (ea_starL (el_message (x := "HTTP/1.0\nCONNECTION:KEEP-ALIVE\n\n") ev_c ev_c (by kernel_rfl) (by decide +kernel) (by decide +kernel)) (ea_cons ev_c ea_nil)) (by decide +kernel)) (by unfold d4 vI; rw [List.map_append] <;> rfl)) z3 fun H5 f4 z4 => ?_
    refine fd_if (d := d5 o n) f4 rfl (et_test (ev_ne (ev_bk T.c_Book T.na_Book_most_line (ev_var rfl) (h1.ex f4.2.1) (lk_most_line _)) (ev_bk T.c_Book T.na_Book_most_line (ev_var rfl) (h2.ex f4.2.1) (lk_most_line _)) rfl)) (fun _ K1 g => el_B (ev_var rfl) (ev_var rfl) (h1.ex (f4.2.1.trans g)) (h2.ex (f4.2.1.trans g)) k1 k2) z4 fun H6 f5 z5 => ?_
    refine fd_if (d := d6 o n) f5 rfl (et_test (ev_ne (ev_bk T.c_Book T.na_Book_most_fields (ev_var rfl) (h1.ex f5.2.1) (lk_most_fields _)) (ev_bk T.c_Book T.na_Book_most_fields (ev_var rfl) (h2.ex f5.2.1) (lk_most_fields _)) rfl)) (fun _ K1 g => el_B (ev_var rfl) (ev_var rfl) (h1.ex (f5.2.1.trans g)) (h2.ex (f5.2.1.trans g)) k1 k2) z5 fun H7 f6 z6 => ?_
    refine fd_if (d := d7 o n) f6 rfl (et_test (ev_ne (ev_bk T.c_Book T.na_Book_most_digits (ev_var rfl) (h1.ex f6.2.1) (lk_most_digits _)) (ev_bk T.c_Book T.na_Book_most_digits (ev_var rfl) (h2.ex f6.2.1) (lk_most_digits _)) rfl)) (fun _ K1 g => el_B (ev_var rfl) (ev_var rfl) (h1.ex (f6.2.1.trans g)) (h2.ex (f6.2.1.trans g)) k1 k2) z6 fun H8 f7 z7 => ?_
    exact ev_var rfl _ (Ex.refl _) _ fun H9 e9 => q l H9 (f7.ex e9)
end Pw
set_option Elab.async false
set_option linter.all false
set_option maxRecDepth 100000
set_option maxHeartbeats 400000
namespace Pw
open PySem PySem.Spec PyProof.Rows L2 Evl
variable {P : Program} {w : World} {K : PySem.W.Frag} {mg : Str → Option Value} {base : Heap}
open Mn
def due (a b : Op) : Option (List Int) := match unl a b with
  | [] => none
  | d :: ds => some (best d ds)
def RetO : Option (List Int) → Hp → VK → Prop
  | none, H, Q => ∀ H', Ex H H' → Q .non H'
  | some d, H, Q => RetL (vI d) H Q
abbrev s_parting : Stmt := (top 37)
abbrev sn_parting : List Str := ["one", "other", "name", "book", "found", "data"]
theorem sc_parting : FnScope sn_parting ["one", "other"] (defScope s_parting) := ⟨rfl, rfl, rfl, by decide +kernel, rfl, by decide +kernel, by decide +kernel⟩
def sp_parting : Sp := fun vs H Q _ => ∃ (a b : Addr) (o n : Op), vs = [.ref a, .ref b] ∧ Bk K H a o ∧ Bk K H b n ∧ o.ok ∧ n.ok ∧ RetO (due o n) H Q
def encL (d : List Int) : PyData := .list (d.map PyData.int)
theorem lay_ints : ∀ d : List Int, PyData.canLayAll0 (d.map PyData.int) = true
  | [] => by simp [PyData.canLayAll0]
  | i :: d => by simp [PyData.canLayAll0, PyData.canLay0, lay_ints d]
theorem lay_lists : ∀ ds : List (List Int), PyData.canLayAll0 (ds.map encL) = true
  | [] => by simp [PyData.canLayAll0]
  | d :: ds => by simp [PyData.canLayAll0, encL, PyData.canLay0, lay_ints d, lay_lists ds]
theorem depth_lists : ∀ ds : List (List Int), PyData.depthAll (ds.map encL) ≤ 1
  | [] => by simp [PyData.depthAll]
  | d :: ds => by
    have := depth_lists ds
    simp [PyData.depthAll, encL, PyData.depth, PySem.W.depth_ints]
    omega
theorem shaped_ints (d : List Int) : SeqAt.shaped (encL d) = true := by
  show ((encL d).canLay0 && decide ((encL d).depth ≤ 64)) = true
  rw [Bool.and_eq_true]
  exact ⟨by simp only [encL, PyData.canLay0]; exact lay_ints d, decide_eq_true (by simp [encL, PyData.depth, PySem.W.depth_ints])⟩
theorem shaped_lists (ds : List (List Int)) : SeqAt.shaped (.list (ds.map encL)) = true := by
  have h := depth_lists ds
  show (PyData.canLay0 (.list (ds.map encL)) && decide (PyData.depth (.list (ds.map encL)) ≤ 64)) = true
  rw [Bool.and_eq_true]
  exact ⟨by simp only [PyData.canLay0]; exact lay_lists ds, decide_eq_true (by simp only [PyData.depth]; omega)⟩
theorem eqv_nil (xs : List PyData) : PyData.eqv (.list xs) (.list []) = xs.isEmpty := by
  cases xs <;> simp [PyData.eqv, PyData.eqvAll]
theorem dp_lists {H H0 : Hp} {l : Addr} : ∀ {ps : List Addr} {ds : List (List Int)}, PySem.Paired (fun p d => isL H p d ∧ p ≠ l ∧ H0 p = none) ps ds → DpAll K H (ps.map V.ref) (ds.map encL)
  | _, _, .nil => .nil
  | _, _, .cons r t => .cons (dp_list r.1) (dp_lists t)
theorem unl_len (o n : Op) : (unl o n).length ≤ 1000 := by
  unfold unl
  simp only [List.length_append, List.length_nil]
  have h (b : Bool) (d : List Int) := if_len b d
  have := h (!decide (V.str o.both = V.str n.both)) (d1 o n)
  have := h (!decide (V.str o.lengths = V.str n.lengths)) d2
  have := h (!decide (V.str o.old = V.str n.old)) d3
  have := h (!decide (V.bl o.keep = V.bl n.keep)) d4
  have := h (!decide (V.int o.line = V.int n.line)) (d5 o n)
  have := h (!decide (V.int o.fields = V.int n.fields)) (d6 o n)
  have := h (!decide (V.int o.digits = V.int n.digits)) (d7 o n)
  omega
theorem ok_parting (T : Tx K mg) : FnOk P w K mg base CX0 7 (He.fAd K d_parting.at_) (fdt K d_parting.at_) ["one", "other"] (sp_parting (K := K)) :=
  FunD.ok T.F_parting sc_parting (fun _ _ _ _ ⟨_, _, _, _, e, _⟩ => by subst e; rfl) fun cdv A outer s H vs Q E hr ⟨a, b, o, n, ev, h1, h2, k1, k2, q⟩ => by
    subst ev
    refine ⟨_, PSs.nox (pss_cons (ps_for PassesOwn.never rfl (pi_tup (pe_tup (pa_cons (pe_tup (pa_cons pe_str (pa_cons (pv 0) pa_nil))) (pa_cons (pe_tup (pa_cons pe_str (pa_cons (pv 1) pa_nil))) pa_nil)))) (pg_tup rfl (pgs_cons (pg_name (i := 2) sc_parting.nd rfl (Or.inl rfl)) (pgs_cons (pg_name (i := 3) sc_parting.nd rfl (Or.inl rfl)) pgs_nil))) (pss_one (ps_if (pt_not (pt_val (pe_callB (C8.call_isC (T.is_Book)) (by rfl) (T.f_isinstance) (by decide +kernel) (pa_cons (pv 3) (pa_cons (pe_gr (T.g_Book)) pa_nil))))) (pss_one ps_never) pss_nil)))
      (pss_cons (ps_set (i := 4) sc_parting.nd rfl (Or.inl rfl) (pe_call (ok_unlike_data T) (hr.mono (by decide)) rfl (T.g_unlike_data) (T.kp_unlike_data) (T.b_unlike_data) .nil pass0 (pa_cons (pv 0) (pa_cons (pv 1) pa_nil))))
      (pss_cons (ps_if (pt_cmpR (op_eqD hr.units) (pv 4) (pe_lst pa_nil) (nomark _)) (pss_one (ps_ret pe_non)) pss_nil)
      (pss_one (ps_ret (pe_ix ix_tup (pe_callB (cr_minD rfl hr.units) (by rfl) (T.f_min) (by decide +kernel) (pa_cons (pe_lc (own := [("data", 5)]) rfl sc_parting.nd (pi_list (pv 4)) (blkOk_by (N := sn_parting) (sc := defScope s_parting) (by decide +kernel)) (fun _ _ _ _ _ => (pg_name (i := 5) sc_parting.nd rfl (Or.inl rfl))) (fun _ _ _ _ _ => pts_nil) (fun _ _ _ _ _ => (pe_tup (pa_cons (pe_callB (call_len_seqK (K := K) rfl) (by rfl) (T.f_len) (by decide +kernel) (pa_cons (pv 5) pa_nil)) (pa_cons (pv 5) pa_nil))))) pa_nil)) pe_int (fun _ _ => rfl))))))), ?_⟩
    have hz : ∀ x y : V, [x, y].length ≤ sizeLine := fun _ _ => by rw [sizeLine_eq]; show 2 ≤ _; decide
    refine ⟨.ref a, rfl, hz _ _, fun p1 hp1 => ⟨.ref b, rfl, hz _ _, fun p2 hp2 => ⟨hz _ _, fun p3 hp3 => ?_⟩⟩⟩
    have e1 : Ex H _ := Ex.new (o := .tup [.str "one", .ref a]) hp1
    have e2 := e1.trans (Ex.new (o := .tup [.str "other", .ref b]) hp2)
    have e3 := e2.trans (Ex.new (o := .tup [.ref p1, .ref p2]) hp3)
    have g1 := (Ex.new (o := .tup [.ref p1, .ref p2]) hp3) p1 _ ((Ex.new (o := .tup [.str "other", .ref b]) hp2) p1 _ (upd_same (H := H) (o := .tup [.str "one", .ref a])))
    have g2' := (Ex.new (o := .tup [.ref p1, .ref p2]) hp3) p2 _ upd_same
    refine ⟨p3, rfl, ⟨_, st_of upd_same⟩, for_tup (xs := [.ref p1, .ref p2]) (fun i σ' H' => (∃ u v, σ' = [some (.ref a), some (.ref b), u, v, none, none]) ∧ Ex _ H') ⟨⟨_, _, rfl⟩, Ex.refl _⟩ (fun i σ' H' _ pv => st_of (pv.2 p3 _ upd_same)) (fun i x σ' H' hx pv => ?_) fun σ' H' pv => ?_⟩
    · obtain ⟨⟨u, v, rfl⟩, e4⟩ := pv
      obtain ⟨z, m, c, ex, hm, dx, hc⟩ : ∃ z m c, x = .ref z ∧ H' z = some (.tup [.str m, .ref c]) ∧ ∃ dx fs, H' c = some (.ins (He.ga K "Book") dx fs) := by
        match i, hx with
        | 0, hx =>
          obtain ⟨dx, hd⟩ := h1.ex (e3.trans e4)
          exact ⟨p1, _, a, by simpa using hx.symm, e4 _ _ g1, dx, _, hd⟩
        | 1, hx =>
          obtain ⟨dx, hd⟩ := h2.ex (e3.trans e4)
          exact ⟨p2, _, b, by simpa using hx.symm, e4 _ _ g2', dx, _, hd⟩
      subst ex
      obtain ⟨fs, hc⟩ := hc
      refine g2 (st_of hm) ?_
      refine st_if2 (an_not (an_B (vl_cb (v := .bl true) (va_cons (vl_var rfl) (va_cons vl_c va_nil)) fun Q q => ⟨c, dx, fs, rfl, hc, q⟩))) (fun h => by cases h) fun _ => ?_
      exact ⟨⟨_, _, rfl⟩, e4⟩
    · obtain ⟨⟨u, v, rfl⟩, e4⟩ := pv
      have e5 := e3.trans e4
      refine ⟨_, rfl, _, rfl, a, b, o, n, rfl, h1.ex e5, h2.ex e5, k1, k2, fun l H5 f => ?_⟩
      refine q_when (b := (unl o n).isEmpty) (et_test (ev_opL (ev_var rfl) (el_lst ea_nil (by decide)) fun p H6 h6 e6 => fun H7 e7 Q' q' => ?_)) (fun hb H6 e6 => ?_) fun hb H6 e6 => ?_
      · obtain ⟨_, _, ps, hl, pr⟩ := f.ex (e6.trans e7)
        refine ⟨.list ((unl o n).map encL), .list [], .lst (sq_of hl) (dp_lists pr), .lst (sq_of (e7 p _ h6)) .nil, shaped_lists _, shaped_lists [], ?_⟩
        rw [eqv_nil, List.isEmpty_map]
        exact q' H7 (Ex.refl H7)
      · have hd : due o n = none := by
          unfold due
          rw [List.isEmpty_iff.mp hb]
        rw [hd] at q
        exact q H6 (e5.trans (f.2.1.trans e6))
      · cases hu : unl o n with
        | nil => rw [hu] at hb; cases hb
        | cons d ds =>
          have hd : due o n = some (best d ds) := by
            unfold due
            rw [hu]
          rw [hd] at q
          rw [hu] at f
          obtain ⟨f0, fe, ps, hl, pr⟩ := f.ex e6
          have pr2 : PySem.Paired (fun p d => isL H6 p d) ps (d :: ds) := paired_mono (fun _ _ r => r.1) pr
          have hps : ps.length ≤ 1000 := by
            rw [pr.length, ← hu]
            exact unl_len o n
          refine k_ret (k_opc (k_cb1 (lc_var rfl (lc_pairs hl pr2 hps (fun _ => rfl) (fun _ => rfl) fun L H7 ts e7 hL0 hL hps' => ?_))))
          refine ⟨L, ts.map V.ref, enc d, ds.map enc, rfl, sq_of hL, hps'.dp (paired_mono (fun p _ r => e7 p _ r) pr2), enc_likes (d :: ds), Nat.le_trans (encs_depth (d :: ds)) (by decide), fun i v hv hm => ?_⟩
          obtain ⟨t, ht, rfl⟩ : ∃ t, ts[i]? = some t ∧ v = V.ref t := by
            rw [List.getElem?_map] at hv
            cases z : ts[i]? with
            | none => rw [z] at hv; cases hv
            | some t => rw [z] at hv; cases hv; exact ⟨t, rfl, rfl⟩
          obtain ⟨p, d', hp, hd', hP⟩ := hps'.get ht
          have hd2 : ((d :: ds).map enc)[i]? = some (enc d') := by rw [List.getElem?_map, hd']; rfl
          have e9 : enc d' = enc (best d ds) := by
            rw [← best_min]
            exact Option.some.inj (hd2.symm.trans hm)
          rw [enc_inj e9] at hd'
          have r := paired_get pr hp hd'
          exact ⟨t, _, 1, .ref p, rfl, rfl, st_of hP, rfl, q p H7 (fresh_back e5 r.2.2) (e5.trans (fe.trans e7)) (e7 p _ r.1)⟩
end Pw
set_option Elab.async false
set_option linter.all false
set_option maxRecDepth 100000
set_option maxHeartbeats 400000
namespace Pw
open PySem PySem.Spec PyProof.Rows L2 Evl
variable {P : Program} {w : World} {K : PySem.W.Frag} {mg : Str → Option Value} {base : Heap}
open Mn
abbrev s__law_bag : Stmt := (top 39)
abbrev sn__law_bag : List Str := ["_law_script", "_law_at", "_law_cell", "_law_digits"]
theorem sc__law_bag : FnScope sn__law_bag ["_law_script", "_law_at"] (defScope s__law_bag) := ⟨rfl, rfl, rfl, by decide +kernel, rfl, by decide +kernel, by decide +kernel⟩
def sp_bag (K : PySem.W.Frag) : Sp := fun vs H Q _ => ∃ (l : Addr) (ns : List Int) (k : Nat), vs = [.ref l, .int k] ∧ SqL K H l (vI ns) ∧ k < 1000 ∧ ∀ d s : Int, 0 ≤ d → 0 ≤ s → s < 2147483648 → RetL [.int d, .int s, .int 0] H Q
theorem ok__law_bag (T : Tx K mg) : FnOk P w K mg base CX0 1 (He.fAd K d__law_bag.at_) (fdt K d__law_bag.at_) ["_law_script", "_law_at"] (sp_bag K) :=
  FunD.ok T.F__law_bag sc__law_bag (fun _ _ _ _ ⟨_, _, _, e, _⟩ => by subst e; rfl) fun cdv A outer s H vs Q E hr ⟨l, ns, k, ev, hs, hk, q⟩ => by
    subst ev
    refine ⟨_, PSs.nox (pss_cons (ps_set (i := 2) sc__law_bag.nd rfl (Or.inl rfl) (pe_ifExp (pt_cmpR op_lt (pv 1) (pe_callB call_len_seq (by rfl) (T.f_len) (by decide +kernel) (pa_cons (pv 0) pa_nil)) (nomark _)) (pe_ix ix_list (pv 0) (pv 1) (fun _ _ => rfl)) pe_int))
      (pss_cons (ps_set (i := 3) sc__law_bag.nd rfl (Or.inl rfl) (pe_ifExp (pt_cmpR op_ge (pe_callB call_abs (by rfl) (T.f_abs) (by decide +kernel) (pa_cons (pv 2) pa_nil)) (pe_op op_pow pe_int pe_int) (nomark _)) (pe_callB call_abs (by rfl) (T.f_abs) (by decide +kernel) (pa_cons (pv 2) pa_nil)) pe_int))
      (pss_one (ps_ret (pe_lst (pa_cons (pv 3) (pa_cons (pe_op op_mod (pe_op op_pow (pe_op op_add (pe_op op_add (pe_op op_mod (pv 2) pe_int) (pe_op op_mul pe_int (pv 1))) pe_int) pe_int) pe_int) (pa_cons pe_int pa_nil)))))))), ?_⟩
    refine q_asgE (P := fun v => ∃ c : Int, v = .int c) (ex_if (b := decide ((k : Int) < ((vI ns).length : Nat))) (et_test (ev_I0 (ev_var rfl) (ev_cbV (ea_cons (ev_var rfl) ea_nil) fun H1 e Q' q' => ⟨l, vI ns, rfl, .inl (ex_l e hs), q'⟩))) (fun hb => ?_) fun _ => ⟨_, ⟨0, rfl⟩, ev_c⟩) ?_
    · have hk' : k < ns.length := by
        have := of_decide_eq_true hb
        rw [List.length_map] at this
        omega
      exact ⟨_, ⟨ns[k], rfl⟩, ev_op (ev_var rfl) (ev_var rfl) (rv_ixL hs (by
        show atI (vI ns) (k : Int) = _
        unfold atI
        rw [List.length_map, ixN_nat hk']
        simp [vI, hk']))⟩
    · rintro _ ⟨c, rfl⟩ H1 e1
      refine q_asgE (P := fun v => ∃ d : Int, v = .int d ∧ 0 ≤ d) (ex_if (et_test (ev_I0 (ev_cbV (z := .int (if c < 0 then -c else c)) (ea_cons (ev_var rfl) ea_nil) fun H1 e Q' q' => ⟨c, rfl, q'⟩) (ev_op (x := .int 10) (y := .int 18) ev_c ev_c (rv_I ⟨by decide, by decide, by decide⟩)))) (fun hb => ⟨_, ⟨if c < 0 then -c else c, rfl, by split <;> omega⟩, ev_cbV (ea_cons (ev_var rfl) ea_nil) fun H1 e Q' q' => ⟨c, rfl, q'⟩⟩) fun _ => ⟨_, ⟨0, rfl, by decide⟩, ev_c⟩) ?_
      rintro _ ⟨d, rfl, hd⟩ H2 e2
      refine s_retL (el_lst (ea_cons (ev_var rfl) (ea_cons (ev_op (ev_op (ev_I0 (ev_I0 (ev_op (x := .int c) (ev_var rfl) ev_c (rv_I (by decide))) (ev_op (ev_c (v := .int 8111)) (ev_var (v := .int k) rfl) (rv_I (.inl ⟨by decide, by decide⟩)))) ev_c) ev_c (rv_I ⟨by decide, by decide, ?_⟩)) ev_c (rv_I (by decide))) (ea_cons ev_c ea_nil))) (by show 3 ≤ _; decide)) fun p H3 hp e3 h3 => q d _ hd ?_ ?_ p H3 (fresh_back (e1.trans e2) hp) ((e1.trans e2).trans e3) h3
      · have h1 := Int.emod_nonneg c (by decide : (2147483629 : Int) ≠ 0)
        have h2 := Int.emod_lt_of_pos c (by decide : (0 : Int) < 2147483629)
        omega
      · exact Int.emod_nonneg _ (by decide)
      · exact Int.lt_trans (Int.emod_lt_of_pos _ (by decide)) (by decide)
end Pw
set_option Elab.async false
set_option linter.all false
set_option maxRecDepth 100000
set_option maxHeartbeats 400000
namespace Pw
open PySem PySem.Spec PyProof.Rows L2 Evl
variable {P : Program} {w : World} {K : PySem.W.Frag} {mg : Str → Option Value} {base : Heap}
open Mn
def Bg (n d s c : Int) : Prop := 0 ≤ d ∧ 0 ≤ s ∧ s < 2147483648 ∧ 0 ≤ c ∧ c ≤ n
abbrev s__law_take : Stmt := (top 40)
abbrev sn__law_take : List Str := ["_law_bag_here", "_law_many", "_law_digit"]
theorem sc__law_take : FnScope sn__law_take ["_law_bag_here", "_law_many"] (defScope s__law_take) := ⟨rfl, rfl, rfl, by decide +kernel, rfl, by decide +kernel, by decide +kernel⟩
def sp_take : Sp := fun vs H Q _ => ∃ (b : Addr) (m n d s c : Int), vs = [.ref b, .int m] ∧ H b = some (.lst [.int d, .int s, .int c]) ∧ 0 < m ∧ m < 1073741824 ∧ n < 1099511627776 ∧ Bg n d s c ∧
  ∀ r d' s' c' : Int, Bg (n + 1) d' s' c' → 0 ≤ r → r < m → Q (.int r) (upd H b (.lst [.int d', .int s', .int c']))
theorem ok__law_take (T : Tx K mg) : FnOk P w K mg base CX0 1 (He.fAd K d__law_take.at_) (fdt K d__law_take.at_) ["_law_bag_here", "_law_many"] sp_take :=
  FunD.ok T.F__law_take sc__law_take (fun _ _ _ _ ⟨_, _, _, _, _, _, e, _⟩ => by subst e; rfl) fun cdv A outer s H vs Q E hr ⟨b, m, n, d, st, c, ev, hb, m1, m2, n1, ⟨b1, b2, b3, b4, b5⟩, q⟩ => by
    subst ev
    refine ⟨_, PSs.nox (pss_cons (ps_if (pt_cmpR op_gt (pe_ix ix_list (pv 0) pe_int (fun _ _ => rfl)) pe_int (nomark _)) (pss_cons (ps_set (i := 2) sc__law_take.nd rfl (Or.inl rfl) (pe_op op_mod (pe_ix ix_list (pv 0) pe_int (fun _ _ => rfl)) (pv 1)))
      (pss_cons (ps_asg (pe_op op_fdiv (pe_ix ix_list (pv 0) pe_int (fun _ _ => rfl)) (pv 1)) (pg_sub (pv 0) pe_int set_list))
      (pss_one (ps_ret (pv 2))))) pss_nil)
      (pss_cons (ps_asg (pe_op op_add (pe_ix ix_list (pv 0) pe_int (fun _ _ => rfl)) pe_int) (pg_sub (pv 0) pe_int set_list))
      (pss_cons (ps_asg (pe_op op_mod (pe_op op_add (pe_op op_add (pe_op op_mul (pe_ix ix_list (pv 0) pe_int (fun _ _ => rfl)) pe_int) (pe_op op_mul (pe_op op_mul pe_int (pe_ix ix_list (pv 0) pe_int (fun _ _ => rfl))) (pe_ix ix_list (pv 0) pe_int (fun _ _ => rfl)))) pe_int) pe_int) (pg_sub (pv 0) pe_int set_list))
      (pss_one (ps_ret (pe_op op_mod (pe_op op_mod (pe_op op_pow (pe_op op_fdiv (pe_ix ix_list (pv 0) pe_int (fun _ _ => rfl)) pe_int) pe_int) pe_int) (pv 1))))))), ?_⟩
    have ix : ∀ {H' : Hp} {σ : L2.St} {x y z : V} (j : Int) (v : V), σ[0]? = some (some (.ref b)) → H' b = some (.lst [x, y, z]) → atI [x, y, z] j = some v → Val (tOp (rIxL K) (tVar 0) (tC (.int j))) σ H' v := fun j v h0 h1 h2 => vl_ixL (vl_var h0) vl_c (sq_of h1) h2
    refine v_when (v_test (vl_I0 (ix 0 (.int d) rfl hb rfl) vl_c)) (fun hd => ?_) fun hd => ?_
    · refine v_set (vl_I (ix 0 (.int d) rfl hb rfl) (vl_var rfl) m1) ?_
      refine v_setL (j := 0) (vl_I (ix 0 (.int d) rfl hb rfl) (vl_var rfl) ⟨m1, m2⟩) (vl_var rfl) vl_c hb (by show 0 < 3; decide) ?_
      refine v_ret (vl_var rfl) ?_
      exact q _ (d / m) st c ⟨Int.ediv_nonneg b1 (Int.le_of_lt m1), b2, b3, b4, by omega⟩ (Int.emod_nonneg _ (Int.ne_of_gt m1)) (Int.emod_lt_of_pos _ m1)
    · refine v_setL (j := 2) (vl_I0 (ix 2 (.int c) rfl hb rfl) vl_c) (vl_var rfl) vl_c hb (by show 2 < 3; decide) ?_
      refine v_setL (j := 1) (vl_I (vl_I0 (vl_I0 (vl_I (ix 1 (.int st) rfl upd_same rfl) vl_c (.inr ⟨by decide, by decide⟩)) (vl_I (vl_I (vl_c (v := .int 7331)) (ix 2 (.int (c + 1)) rfl upd_same rfl) (.inl ⟨by decide, by decide⟩)) (ix 2 (.int (c + 1)) rfl upd_same rfl) (.inr ⟨by omega, by omega⟩))) vl_c) vl_c (by show (0 : Int) < _; decide)) (vl_var rfl) vl_c upd_same (by show 1 < 3; decide) ?_
      have s1 : 0 ≤ (st * 16807 + 7331 * (c + 1) * (c + 1) + 13) % 2147483647 := Int.emod_nonneg _ (by decide)
      have s2 : (st * 16807 + 7331 * (c + 1) * (c + 1) + 13) % 2147483647 < 2147483647 := Int.emod_lt_of_pos _ (by decide)
      refine v_ret (vl_I (vl_I (vl_I (vl_I (ix 1 (.int ((st * 16807 + 7331 * (c + 1) * (c + 1) + 13) % 2147483647)) rfl upd_same rfl) vl_c ⟨by decide, by decide⟩) (vl_c (v := .int 3)) ⟨by decide, by decide, ?_⟩) vl_c (by show (0 : Int) < _; decide)) (vl_var rfl) m1) ?_
      · omega
      · show Q _ (upd (upd H b _) b _)
        rw [upd_upd]
        exact q _ d _ (c + 1) ⟨b1, s1, by omega, by omega, by omega⟩ (Int.emod_nonneg _ (Int.ne_of_gt m1)) (Int.emod_lt_of_pos _ m1)
abbrev s__law_pick : Stmt := (top 41)
abbrev sn__law_pick : List Str := ["_law_bag_here", "_law_menu"]
theorem sc__law_pick : FnScope sn__law_pick ["_law_bag_here", "_law_menu"] (defScope s__law_pick) := ⟨rfl, rfl, rfl, by decide +kernel, rfl, by decide +kernel, by decide +kernel⟩
def sp_pick (K : PySem.W.Frag) : Sp := fun vs H Q _ => ∃ (b p : Addr) (xs : List V) (n d s c : Int), vs = [.ref b, .ref p] ∧ H b = some (.lst [.int d, .int s, .int c]) ∧ H p = some (.lst xs) ∧ p ≠ b ∧ 0 < xs.length ∧ xs.length < 1000 ∧ n < 1099511627776 ∧ Bg n d s c ∧
  ∀ v d' s' c', v ∈ xs → Bg (n + 1) d' s' c' → Q v (upd H b (.lst [.int d', .int s', .int c']))
theorem ok__law_pick (T : Tx K mg) : FnOk P w K mg base CX0 2 (He.fAd K d__law_pick.at_) (fdt K d__law_pick.at_) ["_law_bag_here", "_law_menu"] (sp_pick K) :=
  FunD.ok T.F__law_pick sc__law_pick (fun _ _ _ _ ⟨_, _, _, _, _, _, _, e, _⟩ => by subst e; rfl) fun cdv A outer s H vs Q E hr ⟨b, p, xs, n, d, st, c, ev, hb, hp, hne, x0, x1, n1, hB, q⟩ => by
    subst ev
    refine ⟨_, PSs.nox (pss_one (ps_ret (pe_ix ix_list (pv 1) (pe_call (ok__law_take T) (hr.mono (by decide)) rfl (T.g__law_take) (T.kp__law_take) (T.b__law_take) .nil pass0 (pa_cons (pv 0) (pa_cons (pe_callB call_len_seq (by rfl) (T.f_len) (by decide +kernel) (pa_cons (pv 1) pa_nil)) pa_nil))) (fun _ _ => rfl)))), ?_⟩
    refine k_retop (k_val (vl_var rfl) (k_call2v (vl_var rfl) (vl_len (va_cons (vl_var rfl) va_nil) (.inl (sq_of hp))) ⟨b, xs.length, n, d, st, c, rfl, hb, by omega, by omega, n1, hB, fun r d' s' c' hB' r0 r1 => ?_⟩))
    obtain ⟨j, rfl⟩ : ∃ j : Nat, r = j := ⟨r.toNat, by omega⟩
    have hj : j < xs.length := by omega
    refine ⟨p, xs, j, xs[j], rfl, rfl, sq_of ?_, ?_, q _ d' s' c' (List.getElem_mem hj) hB'⟩
    · rw [upd_ne hne]
      exact hp
    · unfold atI
      rw [ixN_nat hj]
      simp [hj]
end Pw
set_option Elab.async false
set_option linter.all false
set_option maxRecDepth 100000
set_option maxHeartbeats 400000
namespace Pw
open PySem PySem.Spec PyProof.Rows L2 Evl
variable {P : Program} {w : World} {K : PySem.W.Frag} {mg : Str → Option Value} {base : Heap}
open Mn
def dOp (o : Op) : List (Key × V) := [(.inr "both", .str o.both), (.inr "lengths", .str o.lengths), (.inr "old_chunked", .str o.old), (.inr "keep_old", .bl o.keep), (.inr "most_line", .int o.line), (.inr "most_fields", .int o.fields), (.inr "most_digits", .int o.digits)]
theorem dk_both (o : Op) : valV (dOp o) (.inr "both") = some (V.str o.both) := by kernel_rfl
theorem dp_both (o : Op) (x : Str) : putK (dOp o) (.inr "both") (V.str x) = dOp { o with both := x } := by kernel_rfl
theorem dk_lengths (o : Op) : valV (dOp o) (.inr "lengths") = some (V.str o.lengths) := by kernel_rfl
theorem dp_lengths (o : Op) (x : Str) : putK (dOp o) (.inr "lengths") (V.str x) = dOp { o with lengths := x } := by kernel_rfl
theorem dk_old_chunked (o : Op) : valV (dOp o) (.inr "old_chunked") = some (V.str o.old) := by kernel_rfl
theorem dp_old_chunked (o : Op) (x : Str) : putK (dOp o) (.inr "old_chunked") (V.str x) = dOp { o with old := x } := by kernel_rfl
theorem dk_keep_old (o : Op) : valV (dOp o) (.inr "keep_old") = some (V.bl o.keep) := by kernel_rfl
theorem dp_keep_old (o : Op) (x : Bool) : putK (dOp o) (.inr "keep_old") (V.bl x) = dOp { o with keep := x } := by kernel_rfl
theorem dk_most_line (o : Op) : valV (dOp o) (.inr "most_line") = some (V.int o.line) := by kernel_rfl
theorem dp_most_line (o : Op) (x : Int) : putK (dOp o) (.inr "most_line") (V.int x) = dOp { o with line := x } := by kernel_rfl
theorem dk_most_fields (o : Op) : valV (dOp o) (.inr "most_fields") = some (V.int o.fields) := by kernel_rfl
theorem dp_most_fields (o : Op) (x : Int) : putK (dOp o) (.inr "most_fields") (V.int x) = dOp { o with fields := x } := by kernel_rfl
theorem dk_most_digits (o : Op) : valV (dOp o) (.inr "most_digits") = some (V.int o.digits) := by kernel_rfl
theorem dp_most_digits (o : Op) (x : Int) : putK (dOp o) (.inr "most_digits") (V.int x) = dOp { o with digits := x } := by kernel_rfl
def nameVs : List V := [.str "both", .str "lengths", .str "old_chunked", .str "keep_old", .str "most_line", .str "most_fields", .str "most_digits"]
def menus : List (List V) := [[.str "refuse", .str "chunked"], [.str "refuse", .str "equal"], [.str "refuse", .str "accept"], [.bl true, .bl false], [.int 40, .int 41, .int 60, .int 200], [.int 2, .int 3, .int 8, .int 20], [.int 1, .int 2, .int 5, .int 8]]
theorem menu_set {i : Nat} {m : List V} {o : Op} {v : V} (ho : o.ok) (hm : menus[i]? = some m) (hv : v ∈ m) : ∃ k o', nameVs[i]? = some (kV k) ∧ putK (dOp o) k v = dOp o' ∧ o'.ok := by
  obtain ⟨h1, h2, h3, h4, h5, h6, h7, h8, h9⟩ := ho
  match i, hm with
  | 0, hm =>
    obtain rfl := Option.some.inj hm
    obtain ⟨x, rfl, hx⟩ : ∃ x : Str, v = .str x ∧ (x = "refuse" ∨ x = "chunked") := by
      rcases List.mem_cons.mp hv with e | hv
      · exact ⟨_, e, .inl rfl⟩
      · exact ⟨_, List.mem_singleton.mp hv, .inr rfl⟩
    exact ⟨.inr "both", _, rfl, dp_both o x, hx, h2, h3, h4, h5, h6, h7, h8, h9⟩
  | 1, hm =>
    obtain rfl := Option.some.inj hm
    obtain ⟨x, rfl, hx⟩ : ∃ x : Str, v = .str x ∧ (x = "refuse" ∨ x = "equal") := by
      rcases List.mem_cons.mp hv with e | hv
      · exact ⟨_, e, .inl rfl⟩
      · exact ⟨_, List.mem_singleton.mp hv, .inr rfl⟩
    exact ⟨.inr "lengths", _, rfl, dp_lengths o x, h1, hx, h3, h4, h5, h6, h7, h8, h9⟩
  | 2, hm =>
    obtain rfl := Option.some.inj hm
    obtain ⟨x, rfl, hx⟩ : ∃ x : Str, v = .str x ∧ (x = "refuse" ∨ x = "accept") := by
      rcases List.mem_cons.mp hv with e | hv
      · exact ⟨_, e, .inl rfl⟩
      · exact ⟨_, List.mem_singleton.mp hv, .inr rfl⟩
    exact ⟨.inr "old_chunked", _, rfl, dp_old_chunked o x, h1, h2, hx, h4, h5, h6, h7, h8, h9⟩
  | 3, hm =>
    obtain rfl := Option.some.inj hm
    obtain ⟨x, rfl⟩ : ∃ x : Bool, v = .bl x := by
      rcases List.mem_cons.mp hv with e | hv
      · exact ⟨_, e⟩
      · exact ⟨_, List.mem_singleton.mp hv⟩
    exact ⟨.inr "keep_old", _, rfl, dp_keep_old o x, h1, h2, h3, h4, h5, h6, h7, h8, h9⟩
  | 4, hm =>
    obtain rfl := Option.some.inj hm
    obtain ⟨x, rfl, a, b⟩ : ∃ x : Int, v = .int x ∧ 40 ≤ x ∧ x ≤ 200 := by
      simp only [List.mem_cons, List.not_mem_nil, or_false] at hv
      rcases hv with e | e | e | e <;> exact ⟨_, e, by decide, by decide⟩
    exact ⟨.inr "most_line", _, rfl, dp_most_line o x, h1, h2, h3, a, b, h6, h7, h8, h9⟩
  | 5, hm =>
    obtain rfl := Option.some.inj hm
    obtain ⟨x, rfl, a, b⟩ : ∃ x : Int, v = .int x ∧ 2 ≤ x ∧ x ≤ 20 := by
      simp only [List.mem_cons, List.not_mem_nil, or_false] at hv
      rcases hv with e | e | e | e <;> exact ⟨_, e, by decide, by decide⟩
    exact ⟨.inr "most_fields", _, rfl, dp_most_fields o x, h1, h2, h3, h4, h5, a, b, h8, h9⟩
  | 6, hm =>
    obtain rfl := Option.some.inj hm
    obtain ⟨x, rfl, a, b⟩ : ∃ x : Int, v = .int x ∧ 1 ≤ x ∧ x ≤ 8 := by
      simp only [List.mem_cons, List.not_mem_nil, or_false] at hv
      rcases hv with e | e | e | e <;> exact ⟨_, e, by decide, by decide⟩
    exact ⟨.inr "most_digits", _, rfl, dp_most_digits o x, h1, h2, h3, h4, h5, h6, h7, a, b⟩
  | i + 7, hm => cases hm
/-- the names and the menus as they stand -/
structure Env (H0 : Hp) (nm vv : Addr) (ms : List Addr) (H : Hp) : Prop where
  hnm : H nm = some (.lst nameVs)
  hvv : H vv = some (.lst (ms.map V.ref))
  hms : PySem.Paired (fun a m => H a = some (.lst m) ∧ H0 a = none) ms menus
  n0 : H0 nm = none
  v0 : H0 vv = none
theorem Env.upd {H0 H : Hp} {nm vv x : Addr} {ms : List Addr} {o : HO} (e : Env H0 nm vv ms H) (h : ∀ a m, H a = some (.lst m) → H0 a = none → x ≠ a) : Env H0 nm vv ms (L2.upd H x o) :=
  ⟨by rw [upd_ne (Ne.symm (h _ _ e.hnm e.n0))]; exact e.hnm, by rw [upd_ne (Ne.symm (h _ _ e.hvv e.v0))]; exact e.hvv,
    paired_mono (fun a m r => ⟨by rw [upd_ne (Ne.symm (h _ _ r.1 r.2))]; exact r.1, r.2⟩) e.hms, e.n0, e.v0⟩
theorem Env.updB {H0 H : Hp} {nm vv b : Addr} {ms : List Addr} {o u : HO} (e : Env H0 nm vv ms H) (h : H0 b = some u) : Env H0 nm vv ms (L2.upd H b o) := e.upd fun a m _ h0 z => by
  rw [z, h0] at h
  cases h
theorem Env.updD {H0 H : Hp} {nm vv d : Addr} {ms : List Addr} {o : HO} {kvs : List (Key × V)} (e : Env H0 nm vv ms H) (h : H d = some (.dK kvs)) : Env H0 nm vv ms (L2.upd H d o) := e.upd fun a m h1 h0 z => by
  rw [z, h1] at h
  cases h
theorem Env.ex {H0 H H' : Hp} {nm vv : Addr} {ms : List Addr} (e : Env H0 nm vv ms H) (x : Ex H H') : Env H0 nm vv ms H' := ⟨x _ _ e.hnm, x _ _ e.hvv, paired_mono (fun a m r => ⟨x _ _ r.1, r.2⟩) e.hms, e.n0, e.v0⟩
abbrev bagV (d s c : Int) : HO := .lst [.int d, .int s, .int c]
/-- one turn: at = take(bag, 7); x[names[at]] = pick(bag, values[at]) -/
theorem turn_ok {H0 H : Hp} {b nm vv x : Addr} {ms : List Addr} {o : Op} {σ : L2.St} {dv : Nat} {n d s c : Int} {D : Ends} {u0 : HO} (hb0 : H0 b = some u0) (s0 : σ[0]? = some (some (.ref b))) (sd : σ[dv]? = some (some (.ref x))) (s2 : σ[2]? = some (some (.ref nm))) (s3 : σ[3]? = some (some (.ref vv)))
    (l5 : 5 < σ.length) (d5 : dv ≠ 5) (e : Env H0 nm vv ms H) (hb : H b = some (bagV d s c)) (hx : H x = some (.dK (dOp o))) (ho : o.ok) (hB : Bg n d s c) (hn : n < 1000000)
    (k : ∀ (r : V) H' d' s' c' o', o'.ok → Bg (n + 2) d' s' c' → Env H0 nm vv ms H' → H' b = some (bagV d' s' c') → H' x = some (.dK (dOp o')) → (∀ a u, a ≠ b → a ≠ x → H a = some u → H' a = some u) → D.nx (σ.set 5 (some r)) H') :
    tSeq (tAsg (tCall sp_take [] E0 (tCons (tVar 0) (tCons (tC (.int 7)) tNil))) (gName 5)) (sDPut (tVar dv) (tOp (rIxL K) (tVar 2) (tVar 5)) (tCall (sp_pick K) [] E0 (tCons (tVar 0) (tCons (tOp (rIxL K) (tVar 3) (tVar 5)) tNil)))) D σ H := by
  have hbx : x ≠ b := fun z => by rw [z, hb] at hx; cases hx
  refine k_asg (k_call2v (vl_var s0) vl_c ⟨b, 7, n, d, s, c, rfl, hb, by decide, by decide, by omega, hB, fun r d1 s1 c1 hB1 r0 r1 => ?_⟩)
  obtain ⟨j, rfl⟩ : ∃ j : Nat, r = j := ⟨r.toNat, by omega⟩
  have hj : j < 7 := by omega
  have e1 := e.updB (o := bagV d1 s1 c1) hb0
  have hx1 : upd H b (bagV d1 s1 c1) x = some (.dK (dOp o)) := by rw [upd_ne hbx]; exact hx
  have g : ∀ {i : Nat} {y : V}, i ≠ 5 → σ[i]? = some (some y) → (σ.set 5 (some (.int (j : Nat))))[i]? = some (some y) := fun {i y} h1 h2 => by rw [List.getElem?_set_ne (Ne.symm h1)]; exact h2
  have g5 : (σ.set 5 (some (.int (j : Nat))))[5]? = some (some (.int (j : Nat))) := by rw [List.getElem?_set_self l5]
  have hm : ∃ m, menus[j]? = some m := ⟨_, List.getElem?_eq_getElem (by show j < 7; exact hj)⟩
  obtain ⟨m, hm⟩ := hm
  have hml : ms.length = 7 := e.hms.length
  have ha : ∃ a, ms[j]? = some a := ⟨_, List.getElem?_eq_getElem (by omega)⟩
  obtain ⟨a, ha⟩ := ha
  obtain ⟨q1, q2⟩ := paired_get e1.hms ha hm
  have hab : a ≠ b := fun z => by rw [z, hb0] at q2; cases q2
  have hmz : 0 < m.length ∧ m.length < 1000 := by
    match j, hm with
    | 0, hm => obtain rfl := Option.some.inj hm; exact ⟨by show 0 < 2; decide, by show 2 < 1000; decide⟩
    | 1, hm => obtain rfl := Option.some.inj hm; exact ⟨by show 0 < 2; decide, by show 2 < 1000; decide⟩
    | 2, hm => obtain rfl := Option.some.inj hm; exact ⟨by show 0 < 2; decide, by show 2 < 1000; decide⟩
    | 3, hm => obtain rfl := Option.some.inj hm; exact ⟨by show 0 < 2; decide, by show 2 < 1000; decide⟩
    | 4, hm => obtain rfl := Option.some.inj hm; exact ⟨by show 0 < 4; decide, by show 4 < 1000; decide⟩
    | 5, hm => obtain rfl := Option.some.inj hm; exact ⟨by show 0 < 4; decide, by show 4 < 1000; decide⟩
    | 6, hm => obtain rfl := Option.some.inj hm; exact ⟨by show 0 < 4; decide, by show 4 < 1000; decide⟩
    | i + 7, hm => cases hm
  have iv : atI (ms.map V.ref) (j : Int) = some (.ref a) := by
    unfold atI
    rw [List.length_map, ixN_nat (by omega)]
    show (ms.map V.ref)[j]? = _
    rw [List.getElem?_map, ha] <;> rfl
  refine k_call2v (vl_var (g (by decide) s0)) (vl_ixL (vl_var (g (by decide) s3)) (vl_var g5) (sq_of e1.hvv) iv) ⟨b, a, m, n + 1, d1, s1, c1, rfl, upd_same, q1, hab, hmz.1, hmz.2, by omega, hB1, fun v d2 s2' c2 hv hB2 => ?_⟩
  have e2 := e1.updB (o := bagV d2 s2' c2) hb0
  have hx2 : upd (upd H b (bagV d1 s1 c1)) b (bagV d2 s2' c2) x = some (.dK (dOp o)) := by rw [upd_ne hbx]; exact hx1
  obtain ⟨ky, o', k1, k2, k3⟩ := menu_set ho hm hv
  have ni : atI nameVs (j : Int) = some (kV ky) := by
    unfold atI
    rw [ixN_nat (by show j < 7; exact hj)]
    exact k1
  refine ⟨_, g d5 sd, ?_⟩
  refine k_val (vl_ixL (vl_var (g (by decide) s2)) (vl_var g5) (sq_of e2.hnm) ni) ⟨x, _, rfl, DPut.k hx2 (by rw [sizeLine_eq]; show 7 < _; decide), ?_⟩
  rw [k2]
  refine k _ _ d2 s2' c2 o' k3 (by have := hB2; unfold Bg at *; omega) (e2.updD hx2) ?_ upd_same fun y u yb yx hy => ?_
  · rw [upd_ne (Ne.symm hbx), upd_same]
  · rw [upd_ne yx, upd_ne yb, upd_ne yb]
    exact hy
end Pw
set_option Elab.async false
set_option linter.all false
set_option maxRecDepth 100000
set_option maxHeartbeats 400000
namespace Pw
open PySem PySem.Spec PyProof.Rows L2 Evl
variable {P : Program} {w : World} {K : PySem.W.Frag} {mg : Str → Option Value} {base : Heap}
open Mn
def usual : Op := ⟨"refuse", "refuse", "refuse", true, 100, 16, 6⟩
theorem usual_ok : usual.ok := ⟨.inl rfl, .inl rfl, .inl rfl, by decide, by decide, by decide, by decide, by decide, by decide⟩
theorem usual_made : putK (putK (mergeK [] [(.inr "both", V.str "refuse"), (.inr "lengths", .str "refuse"), (.inr "old_chunked", .str "refuse"), (.inr "keep_old", .bl true), (.inr "most_line", .int 100)]) (.inr "most_fields") (.int 16)) (.inr "most_digits") (.int 6) = dOp usual := by kernel_rfl
abbrev s__law_options : Stmt := (top 42)
abbrev sn__law_options : List Str := ["_law_bag_here", "_law_one", "_law_names", "_law_values", "_law_turn", "_law_at", "_law_other"]
theorem sc__law_options : FnScope sn__law_options ["_law_bag_here"] (defScope s__law_options) := ⟨rfl, rfl, rfl, by decide +kernel, rfl, by decide +kernel, by decide +kernel⟩
def sp_options : Sp := fun vs H Q _ => ∃ (b : Addr) (n d s c : Int), vs = [.ref b] ∧ H b = some (bagV d s c) ∧ Bg n d s c ∧ n < 900000 ∧
  ∀ t d1 d2 o1 o2 H' d' s' c', o1.ok → o2.ok → Bg (n + 20) d' s' c' → Fr b H H' → H' b = some (bagV d' s' c') → H' t = some (.tup [.ref d1, .ref d2]) → H' d1 = some (.dK (dOp o1)) → H' d2 = some (.dK (dOp o2)) → Q (.ref t) H'
theorem ok__law_options (T : Tx K mg) : FnOk P w K mg base CX0 3 (He.fAd K d__law_options.at_) (fdt K d__law_options.at_) ["_law_bag_here"] sp_options :=
  FunD.ok T.F__law_options sc__law_options (fun _ _ _ _ ⟨_, _, _, _, _, e, _⟩ => by subst e; rfl) fun cdv A outer s H vs Q E hr ⟨b, n, d, st, c, ev, hb, hB, hn, q⟩ => by
    subst ev
    have hu := hu_of hr
    refine ⟨_, PSs.nox (pss_cons (ps_set (i := 1) sc__law_options.nd rfl (Or.inl rfl) (pe_disp (pps_cons pe_str pe_str (pps_cons pe_str pe_str (pps_cons pe_str pe_str (pps_cons pe_str pe_bl (pps_cons pe_str pe_int pps_nil))))) (by rfl) (by rfl) (fun z => by cases z) (by decide)))
      (pss_cons (ps_asg (pe_tup (pa_cons pe_int (pa_cons pe_int pa_nil))) (pg_tup rfl (pgs_cons (pg_sub (pv 1) pe_str (set_dict hu)) (pgs_cons (pg_sub (pv 1) pe_str (set_dict hu)) pgs_nil))))
      (pss_cons (ps_par (i := 2) (j := 3) rfl sc__law_options.nd rfl rfl (by decide) rfl rfl (pa_cons (pe_callTy (call_listD rfl) (by rfl) (T.f_list) (by decide +kernel) (pa_cons (pv 1) pa_nil)) (pa_cons (pe_lst (pa_cons (pe_lst (pa_cons pe_str (pa_cons pe_str pa_nil))) (pa_cons (pe_lst (pa_cons pe_str (pa_cons pe_str pa_nil))) (pa_cons (pe_lst (pa_cons pe_str (pa_cons pe_str pa_nil))) (pa_cons (pe_lst (pa_cons pe_bl (pa_cons pe_bl pa_nil))) pa_nil))))) pa_nil)) rfl)
      (pss_cons (ps_set (i := 3) sc__law_options.nd rfl (Or.inl rfl) (pe_op op_cat (pv 3) (pe_lst (pa_cons (pe_lst (pa_cons pe_int (pa_cons pe_int (pa_cons pe_int (pa_cons pe_int pa_nil))))) (pa_cons (pe_lst (pa_cons pe_int (pa_cons pe_int (pa_cons pe_int (pa_cons pe_int pa_nil))))) (pa_cons (pe_lst (pa_cons pe_int (pa_cons pe_int (pa_cons pe_int (pa_cons pe_int pa_nil))))) pa_nil))))))
      (pss_cons (ps_for PassesOwn.never rfl (pi_range1 (by rfl) (T.f_range) (pa_cons (pe_call (ok__law_take T) (hr.mono (by decide)) rfl (T.g__law_take) (T.kp__law_take) (T.b__law_take) .nil pass0 (pa_cons (pv 0) (pa_cons pe_int pa_nil))) pa_nil)) (pg_name (i := 4) sc__law_options.nd rfl (Or.inl rfl)) (pss_cons (ps_set (i := 5) sc__law_options.nd rfl (Or.inl rfl) (pe_call (ok__law_take T) (hr.mono (by decide)) rfl (T.g__law_take) (T.kp__law_take) (T.b__law_take) .nil pass0 (pa_cons (pv 0) (pa_cons pe_int pa_nil))))
      (pss_one (ps_dput hu (pv 1) (pe_ix ix_list (pv 2) (pv 5) (fun _ _ => rfl)) (pe_call (ok__law_pick T) (hr.mono (by decide)) rfl (T.g__law_pick) (T.kp__law_pick) (T.b__law_pick) .nil pass0 (pa_cons (pv 0) (pa_cons (pe_ix ix_list (pv 3) (pv 5) (fun _ _ => rfl)) pa_nil))) rfl))))
      (pss_cons (ps_set (i := 6) sc__law_options.nd rfl (Or.inl rfl) (pe_callTy call_dictD (by rfl) (T.f_dict) (by decide +kernel) (pa_cons (pv 1) pa_nil)))
      (pss_cons (ps_for PassesOwn.never rfl (pi_range1 (by rfl) (T.f_range) (pa_cons (pe_op op_add pe_int (pe_call (ok__law_take T) (hr.mono (by decide)) rfl (T.g__law_take) (T.kp__law_take) (T.b__law_take) .nil pass0 (pa_cons (pv 0) (pa_cons pe_int pa_nil)))) pa_nil)) (pg_name (i := 4) sc__law_options.nd rfl (Or.inl rfl)) (pss_cons (ps_set (i := 5) sc__law_options.nd rfl (Or.inl rfl) (pe_call (ok__law_take T) (hr.mono (by decide)) rfl (T.g__law_take) (T.kp__law_take) (T.b__law_take) .nil pass0 (pa_cons (pv 0) (pa_cons pe_int pa_nil))))
      (pss_one (ps_dput hu (pv 6) (pe_ix ix_list (pv 2) (pv 5) (fun _ _ => rfl)) (pe_call (ok__law_pick T) (hr.mono (by decide)) rfl (T.g__law_pick) (T.kp__law_pick) (T.b__law_pick) .nil pass0 (pa_cons (pv 0) (pa_cons (pe_ix ix_list (pv 3) (pv 5) (fun _ _ => rfl)) pa_nil))) rfl))))
      (pss_one (ps_ret (pe_tup (pa_cons (pv 1) (pa_cons (pv 6) pa_nil)))))))))))), ?_⟩
    have hz : ∀ {xs : List V}, xs.length ≤ 10 → xs.length ≤ sizeLine := fun h => Nat.le_trans h (by decide)
    -- the dict
    refine k_asg fun x hx => ⟨upd_same, [(.inr "both", .str "refuse"), (.inr "lengths", .str "refuse"), (.inr "old_chunked", .str "refuse"), (.inr "keep_old", .bl true), (.inr "most_line", .int 100)], rfl, by show 5 ≤ 15; decide, ?_⟩
    rw [upd_upd]
    refine ⟨hz (by show 2 ≤ 10; decide), fun t1 ht1 => ⟨t1, _, rfl, st_of upd_same, rfl, _, _, rfl, ⟨_, rfl, x, _, rfl, DPut.k (k := .inr "most_fields") ((Ex.new ht1) x _ upd_same) (by rw [sizeLine_eq]; show 5 < _; decide), ?_⟩⟩⟩
    refine ⟨_, _, rfl, ⟨_, rfl, x, _, rfl, DPut.k (k := .inr "most_digits") upd_same (by rw [sizeLine_eq]; show 6 < _; decide), rfl, ?_⟩⟩
    rw [upd_upd, usual_made]
    have eD : Ex H (upd (upd (upd H x (.dK (mergeK [] [(.inr "both", V.str "refuse"), (.inr "lengths", .str "refuse"), (.inr "old_chunked", .str "refuse"), (.inr "keep_old", .bl true), (.inr "most_line", .int 100)]))) t1 (.tup [.int 16, .int 6])) x (.dK (dOp usual))) := Ex.mut ((Ex.new hx).trans (Ex.new ht1)) hx
    have gx : upd (upd (upd H x (.dK (mergeK [] [(.inr "both", V.str "refuse"), (.inr "lengths", .str "refuse"), (.inr "old_chunked", .str "refuse"), (.inr "keep_old", .bl true), (.inr "most_line", .int 100)]))) t1 (.tup [.int 16, .int 6])) x (.dK (dOp usual)) x = some (.dK (dOp usual)) := upd_same
    revert eD gx
    generalize upd (upd (upd H x (.dK (mergeK [] [(.inr "both", V.str "refuse"), (.inr "lengths", .str "refuse"), (.inr "old_chunked", .str "refuse"), (.inr "keep_old", .bl true), (.inr "most_line", .int 100)]))) t1 (.tup [.int 16, .int 6])) x (.dK (dOp usual)) = Hd
    intro eD gx
    refine ⟨.ref x, rfl, x, dOp usual, rfl, .inl gx, fun nm hnm => ⟨hz (by show 2 ≤ 10; decide), fun m1 g1 => ⟨hz (by show 2 ≤ 10; decide), fun m2 g2 => ⟨hz (by show 2 ≤ 10; decide), fun m3 g3 => ⟨hz (by show 2 ≤ 10; decide), fun m4 g4 => ⟨hz (by show 4 ≤ 10; decide), fun v1 gv => ⟨_, _, rfl, ?_⟩⟩⟩⟩⟩⟩⟩
    have x0 := Ex.new (o := .lst nameVs) hnm
    have x1 := Ex.new (o := .lst [.str "refuse", .str "chunked"]) g1
    have x2 := Ex.new (o := .lst [.str "refuse", .str "equal"]) g2
    have x3 := Ex.new (o := .lst [.str "refuse", .str "accept"]) g3
    have x4 := Ex.new (o := .lst [.bl true, .bl false]) g4
    have x5 := Ex.new (o := .lst [.ref m1, .ref m2, .ref m3, .ref m4]) gv
    have y0 := upd_same (H := Hd) (a := nm) (o := .lst nameVs)
    have y1 := x5 m1 _ (x4 m1 _ (x3 m1 _ (x2 m1 _ upd_same)))
    have y2 := x5 m2 _ (x4 m2 _ (x3 m2 _ upd_same))
    have y3 := x5 m3 _ (x4 m3 _ upd_same)
    have y4 := x5 m4 _ upd_same
    have X := x0.trans (x1.trans (x2.trans (x3.trans (x4.trans x5))))
    have Y0 := x5 nm _ (x4 nm _ (x3 nm _ (x2 nm _ (x1 nm _ y0))))
    have n0 := fresh_back eD hnm
    have n1 := fresh_back (eD.trans x0) g1
    have n2 := fresh_back (eD.trans (x0.trans x1)) g2
    have n3 := fresh_back (eD.trans (x0.trans (x1.trans x2))) g3
    have n4 := fresh_back (eD.trans (x0.trans (x1.trans (x2.trans x3)))) g4
    refine ⟨.ref v1, rfl, hz (by show 4 ≤ 10; decide), fun m5 g5 => ⟨hz (by show 4 ≤ 10; decide), fun m6 g6 => ⟨hz (by show 4 ≤ 10; decide), fun m7 g7 => ⟨hz (by show 3 ≤ 10; decide), fun v2 gv2 => ?_⟩⟩⟩⟩
    have w5 := Ex.new (o := .lst [.int 40, .int 41, .int 60, .int 200]) g5
    have w6 := Ex.new (o := .lst [.int 2, .int 3, .int 8, .int 20]) g6
    have w7 := Ex.new (o := .lst [.int 1, .int 2, .int 5, .int 8]) g7
    have w8 := Ex.new (o := .lst [.ref m5, .ref m6, .ref m7]) gv2
    have W := w5.trans (w6.trans (w7.trans w8))
    have EX := eD.trans X
    have n5 := fresh_back EX g5
    have n6 := fresh_back (EX.trans w5) g6
    have n7 := fresh_back (EX.trans (w5.trans w6)) g7
    refine ⟨v1, v2, [.ref m1, .ref m2, .ref m3, .ref m4], [.ref m5, .ref m6, .ref m7], rfl, rfl, W v1 _ upd_same, upd_same, by rw [sizeLine_eq]; show 4 + 3 ≤ _; decide, fun vv gvv => ?_⟩
    have z8 := Ex.new (o := .lst [.ref m1, .ref m2, .ref m3, .ref m4, .ref m5, .ref m6, .ref m7]) gvv
    have WZ := W.trans z8
    have En : Env H nm vv [m1, m2, m3, m4, m5, m6, m7] _ := ⟨WZ nm _ Y0, upd_same, .cons ⟨WZ _ _ y1, n1⟩ (.cons ⟨WZ _ _ y2, n2⟩ (.cons ⟨WZ _ _ y3, n3⟩ (.cons ⟨WZ _ _ y4, n4⟩ (.cons ⟨z8 _ _ (w8 _ _ (w7 _ _ (w6 _ _ upd_same))), n5⟩ (.cons ⟨z8 _ _ (w8 _ _ (w7 _ _ upd_same)), n6⟩ (.cons ⟨z8 _ _ (w8 _ _ upd_same), n7⟩ .nil)))))), n0, fresh_back (EX.trans W) gvv⟩
    have EZ := EX.trans WZ
    have hbZ := EZ b _ hb
    have gxZ := (X.trans WZ) x _ gx
    refine ⟨.ref b, rfl, b, 4, n, d, st, c, rfl, hbZ, by decide, by decide, by omega, hB, fun r d1 s1 c1 hB1 r0 r1 => ⟨r, rfl, by omega, by omega, for_range (lo := 0) (n := r.toNat)
      (fun i σ' H' => (∃ u v, σ' = [some (.ref b), some (.ref x), some (.ref nm), some (.ref vv), u, v, none]) ∧ ∃ o dd ss cc, o.ok ∧ Bg (n + 1 + 2 * i) dd ss cc ∧ Env H nm vv [m1, m2, m3, m4, m5, m6, m7] H' ∧ H' b = some (bagV dd ss cc) ∧ H' x = some (.dK (dOp o)) ∧ Fr b H H') ?_ ?_ ?_⟩⟩
    · have nb : x ≠ b := fun z => by rw [z, hb] at hx; cases hx
      exact ⟨⟨_, _, rfl⟩, usual, d1, s1, c1, usual_ok, by unfold Bg at *; omega, En.updB hb, upd_same, by rw [upd_ne nb]; exact gxZ, (Fr.of EZ).upd⟩
    · intro i σ' H' hi pv
      obtain ⟨⟨u, v, rfl⟩, o, dd, ss, cc, ho, hB2, En2, gb2, gx2, fr2⟩ := pv
      refine k_name ?_
      refine turn_ok (dv := 1) hb rfl rfl rfl rfl (by show 5 < 7; decide) (by decide) En2 gb2 gx2 ho hB2 (by omega) fun rv H'' d' s' c' o' ho' hB' En' gb' gx' k' => ?_
      refine ⟨⟨_, _, rfl⟩, o', d', s', c', ho', by unfold Bg at *; omega, En', gb', gx', fun a u' na ha => k' a u' na (fun z => ?_) (fr2 a u' na ha)⟩
      rw [z, hx] at ha
      cases ha
    · intro σ' H' pv
      obtain ⟨⟨u, v, rfl⟩, o, dd, ss, cc, ho, hB2, En2, gb2, gx2, fr2⟩ := pv
      refine ⟨.ref x, rfl, x, dOp o, rfl, .inl gx2, fun y hy => ?_⟩
      have ey := Ex.new (o := .dK (dOp o)) hy
      have hyH : H y = none := by
        cases z : H y with
        | none => rfl
        | some u' =>
          by_cases yb : y = b
          · rw [yb, gb2] at hy; cases hy
          · rw [fr2 y u' yb z] at hy; cases hy
      refine ⟨.ref b, rfl, b, 3, n + 1 + 2 * r.toNat, dd, ss, cc, rfl, ey b _ gb2, by decide, by decide, by omega, hB2, fun r' d2 s2 c2 hB3 r0' r1' => ⟨1, r', rfl, rfl, ⟨1 + r', rfl, by omega, by omega, for_range (lo := 0) (n := (1 + r').toNat)
        (fun i σ' H' => (∃ u v, σ' = [some (.ref b), some (.ref x), some (.ref nm), some (.ref vv), u, v, some (.ref y)]) ∧ ∃ o2 dd ss cc, o2.ok ∧ Bg (n + 1 + 2 * r.toNat + 1 + 2 * i) dd ss cc ∧ Env H nm vv [m1, m2, m3, m4, m5, m6, m7] H' ∧ H' b = some (bagV dd ss cc) ∧ H' x = some (.dK (dOp o)) ∧ H' y = some (.dK (dOp o2)) ∧ Fr b H H') ?_ ?_ ?_⟩⟩⟩
      · have nb : x ≠ b := fun z => by rw [z, hb] at hx; cases hx
        have ny : y ≠ b := fun z => by rw [z, hb] at hyH; cases hyH
        exact ⟨⟨_, _, rfl⟩, o, d2, s2, c2, ho, by unfold Bg at *; omega, (En2.ex ey).updB hb, upd_same, by rw [upd_ne nb]; exact ey x _ gx2, by rw [upd_ne ny]; exact upd_same, (fr2.trans (Fr.of ey)).upd⟩
      · intro i σ' H' hi pv
        obtain ⟨⟨u, v, rfl⟩, o2, dd, ss, cc, ho2, hB4, En4, gb4, gx4, gy4, fr4⟩ := pv
        refine k_name ?_
        have nxy : x ≠ y := fun z => by rw [z, hy] at gx2; cases gx2
        refine turn_ok (dv := 6) hb rfl rfl rfl rfl (by show 5 < 7; decide) (by decide) En4 gb4 gy4 ho2 hB4 (by omega) fun rv H'' d' s' c' o' ho' hB' En' gb' gy' k' => ?_
        refine ⟨⟨_, _, rfl⟩, o', d', s', c', ho', by unfold Bg at *; omega, En', gb', k' x _ (fun z => by rw [z, hb] at hx; cases hx) nxy gx4, gy', fun a u' na ha => k' a u' na (fun z => ?_) (fr4 a u' na ha)⟩
        rw [z, hyH] at ha
        cases ha
      · intro σ' H' pv
        obtain ⟨⟨u, v, rfl⟩, o2, dd, ss, cc, ho2, hB4, En4, gb4, gx4, gy4, fr4⟩ := pv
        refine ⟨_, rfl, _, rfl, hz (by show 2 ≤ 10; decide), fun t ht => ?_⟩
        have et := Ex.new (o := .tup [.ref x, .ref y]) ht
        exact q t x y o o2 _ dd ss cc ho ho2 (by unfold Bg at *; omega) (fr4.trans (Fr.of et)) (et b _ gb4) upd_same (et x _ gx4) (et y _ gy4)
end Pw
set_option Elab.async false
set_option linter.all false
set_option maxRecDepth 100000
set_option maxHeartbeats 400000
namespace Pw
open PySem PySem.Spec PyProof.Rows L2 Evl
variable {P : Program} {w : World} {K : PySem.W.Frag} {mg : Str → Option Value} {base : Heap}
open Mn
abbrev s__law_made_book : Stmt := (top 43)
abbrev sn__law_made_book : List Str := ["_law_told", "_law_a", "_law_b", "_law_c", "_law_d", "_law_e", "_law_f", "_law_g"]
theorem sc__law_made_book : FnScope sn__law_made_book ["_law_told"] (defScope s__law_made_book) := ⟨rfl, rfl, rfl, by decide +kernel, rfl, by decide +kernel, by decide +kernel⟩
def sp_made (K : PySem.W.Frag) : Sp := fun vs H Q _ => ∃ (d : Addr) (o : Op), vs = [.ref d] ∧ H d = some (.dK (dOp o)) ∧ o.ok ∧ ∀ a H', H a = none → Ex H H' → Bk K H' a o → Q (.ref a) H'
theorem ok__law_made_book (T : Tx K mg) : FnOk P w K mg base CX0 5 (He.fAd K d__law_made_book.at_) (fdt K d__law_made_book.at_) ["_law_told"] (sp_made K) :=
  FunD.ok T.F__law_made_book sc__law_made_book (fun _ _ _ _ ⟨_, _, e, _⟩ => by subst e; rfl) fun cdv A outer s H vs Q E hr ⟨d, o, ev, hd, ho, q⟩ => by
    subst ev
    have hu := hu_of hr
    refine ⟨_, PSs.nox (pss_cons (ps_par3 (i := 1) (j := 2) (l := 3) rfl sc__law_made_book.nd rfl rfl rfl (by decide) (by decide) (by decide) rfl rfl rfl (pa_cons (pe_dget hu (pv 0) pe_str (fun _ _ => rfl)) (pa_cons (pe_dget hu (pv 0) pe_str (fun _ _ => rfl)) (pa_cons (pe_dget hu (pv 0) pe_str (fun _ _ => rfl)) pa_nil))) rfl)
      (pss_cons (ps_par (i := 4) (j := 5) rfl sc__law_made_book.nd rfl rfl (by decide) rfl rfl (pa_cons (pe_dget hu (pv 0) pe_str (fun _ _ => rfl)) (pa_cons (pe_dget hu (pv 0) pe_str (fun _ _ => rfl)) pa_nil)) rfl)
      (pss_cons (ps_par (i := 6) (j := 7) rfl sc__law_made_book.nd rfl rfl (by decide) rfl rfl (pa_cons (pe_dget hu (pv 0) pe_str (fun _ _ => rfl)) (pa_cons (pe_dget hu (pv 0) pe_str (fun _ _ => rfl)) pa_nil)) rfl)
      (pss_one (ps_ret (pe_makeK0 (T.m_Book) (ok_BookU_initU T) (hr.mono (by decide)) rfl (T.g_Book) (T.kb_BookU_initU_0_both_lengths_old_chunked_keep_old_most_line_most_fields_most_digits) pass0 (pk_cons (pv 1) (pk_cons (pv 2) (pk_cons (pv 3) (pk_cons (pv 4) (pk_cons (pv 5) (pk_cons (pv 6) (pk_cons (pv 7) pk_nil))))))))))))), ?_⟩
    refine v_par3 (ea_cons (ev_dget (ev_var rfl) ev_c hd (dk_both o)) (ea_cons (ev_dget (ev_var rfl) ev_c hd (dk_lengths o)) (ea_cons (ev_dget (ev_var rfl) ev_c hd (dk_old_chunked o)) ea_nil))) fun H1 e1 => ?_
    refine v_par (ea_cons (ev_dget (ev_var rfl) ev_c (e1 d _ hd) (dk_keep_old o)) (ea_cons (ev_dget (ev_var rfl) ev_c (e1 d _ hd) (dk_most_line o)) ea_nil)) fun H2 e2 => ?_
    refine v_par (ea_cons (ev_dget (ev_var rfl) ev_c (e2 d _ (e1 d _ hd)) (dk_most_fields o)) (ea_cons (ev_dget (ev_var rfl) ev_c (e2 d _ (e1 d _ hd)) (dk_most_digits o)) ea_nil)) fun H3 e3 => ?_
    have e := e1.trans (e2.trans e3)
    refine ⟨_, rfl, _, rfl, _, rfl, _, rfl, _, rfl, _, rfl, _, rfl, rfl, rfl, fun x dx hx hdx hne => ⟨x, dx, o, rfl, ho, upd_same, fun H' fr hx' => ⟨rfl, ?_⟩⟩⟩
    refine q x H' (fresh_back e hx) (fun b u hb => ?_) ⟨dx, hx'⟩
    have hb3 := e b u hb
    have b1 : b ≠ x := fun z => by rw [z, hx] at hb3; cases hb3
    have b2 : b ≠ dx := fun z => by rw [z, hdx] at hb3; cases hb3
    refine fr b u b1 ?_
    rw [upd_ne b1, upd_ne b2]
    exact hb3
end Pw
set_option Elab.async false
set_option linter.all false
set_option maxRecDepth 100000
set_option maxHeartbeats 400000
namespace Pw
open PySem PySem.Spec PyProof.Rows L2 Evl
variable {P : Program} {w : World} {K : PySem.W.Frag} {mg : Str → Option Value} {base : Heap}
open Mn
abbrev s__law_known : Stmt := (top 44)
abbrev sn__law_known : List Str := ["_law_one", "_law_other", "_law_begin", "_law_found", "_law_old", "_law_new", "_law_chunked", "_law_size", "_law_first"]
theorem sc__law_known : FnScope sn__law_known ["_law_one", "_law_other"] (defScope s__law_known) := ⟨rfl, rfl, rfl, by decide +kernel, rfl, by decide +kernel, by decide +kernel⟩
def sp_known : Sp := fun vs H Q _ => ∃ (a b : Addr) (o n : Op), vs = [.ref a, .ref b] ∧ H a = some (.dK (dOp o)) ∧ H b = some (.dK (dOp n)) ∧ o.ok ∧ n.ok ∧ ∀ l H', Fd H l (unl o n) H' → Q (.ref l) H'
theorem vI_app (a b : List Int) : vI a ++ vI b = vI (a ++ b) := (List.map_append).symm
/-- begin + octets(text) -/
theorem el_known {σ : L2.St} {H : Hp} {te : TE} {b : Addr} {x y : Str} (hs : σ[2]? = some (some (.ref b))) (hb : H b = some (.lst (vI [33, 9, 33, 9]))) (h : Ev te σ H (.str x)) (e : x = y) (h1 : okS y) (h2 : y.length ≤ 2000) : EvL (tOp rCat (tVar 2) (tCall sp_octets [] E0 (tCons te tNil))) σ H (vI (msg y)) := by
  subst e
  have h3 : (vI (octI x)).length ≤ 4000 := by
    rw [List.length_map]
    have a := octs_len x.cps.toList
    have b : x.cps.toList.length = x.length := by rw [Array.length_toList] <;> rfl
    unfold octI
    omega
  exact el_is (el_catV (ev_var hs) hb (el_call (vs := [.str x]) (ea_cons h ea_nil) fun H1 e1 Q1 q1 E1 => ⟨x, rfl, h1, h2, q1⟩) (by show 4 + _ ≤ _; omega)) (vI_app _ _)
theorem rep_snoc (x : Str) (n : Nat) : (repS x (n + 1)).cps.toList = x.cps.toList ++ (repS x n).cps.toList := by
  rw [repS_cps, repS_cps, List.replicate_succ, List.flatten_cons]
theorem str_ext {x y : Str} (h : x.cps.toList = y.cps.toList) : x = y := by
  cases x
  cases y
  simpa using h
theorem app_cps (x y : Str) : (x ++ y).cps.toList = x.cps.toList ++ y.cps.toList := by
  show (x.cps ++ y.cps).toList = _
  rw [Array.toList_append]
theorem known_digits (m : Int) (h : 0 ≤ m) : (("HTTP/1.0\n" : Str) ++ "CONTENT-LENGTH:0" ++ repS "0" m.toNat ++ "\n\n") = tDigits (m + 1) := by
  obtain ⟨j, rfl⟩ : ∃ j : Nat, m = j := ⟨m.toNat, by omega⟩
  have e : ((j : Int) + 1).toNat = j + 1 := by omega
  refine str_ext ?_
  unfold tDigits
  rw [e, app_cps, app_cps, app_cps, app_cps, app_cps, app_cps, rep_snoc]
  have e2 : ("CONTENT-LENGTH:0" : Str).cps.toList = ("CONTENT-LENGTH:" : Str).cps.toList ++ ("0" : Str).cps.toList := by decide +kernel
  rw [e2]
  simp only [List.append_assoc]
  rfl
theorem eqv_ss (x y c d : Str) : PyData.eqv (.list [.str x, .str y]) (.list [.str c, .str d]) = (decide (x = c) && decide (y = d)) := by
  simp [PyData.eqv, PyData.eqvAll]
  by_cases h1 : x = c <;> by_cases h2 : y = d <;> simp [h1, h2]
theorem shaped_ss {x y : Str} (hx : PyData.strOk x = true) (hy : PyData.strOk y = true) : SeqAt.shaped (.list [.str x, .str y]) = true := by
  show ((PyData.list [.str x, .str y]).canLay0 && decide ((PyData.list [.str x, .str y]).depth ≤ 64)) = true
  rw [Bool.and_eq_true]
  exact ⟨by simp [PyData.canLay0, PyData.canLayAll0, hx, hy], decide_eq_true (by simp [PyData.depth, PyData.depthAll])⟩
theorem acc_ok {x : Str} (h : x = "refuse" ∨ x = "accept") : PyData.strOk x = true := by
  rcases h with e | e <;> rw [e] <;> decide +kernel
theorem known_line (i j : Int) : (List.replicate (1 + mn i j).toNat [V.int 9]).flatten = vI (List.replicate (mn i j + 1).toNat 9) := by
  rw [Int.add_comm]
  unfold vI
  rw [List.map_replicate]
  generalize (mn i j + 1).toNat = m
  induction m with
  | zero => rfl
  | succ m ih => rw [List.replicate_succ, List.replicate_succ, List.flatten_cons, ih] <;> rfl
theorem known_flen {m : Int} (h : m ≤ 1000) : ("HTTP/1.0\n" : Str).length + (repS "!:\n" m.toNat).length ≤ 100000 := by
  have e1 : ("HTTP/1.0\n" : Str).length = 9 := by decide +kernel
  have e2 : ("!:\n" : Str).length = 3 := by decide +kernel
  rw [repS_len, e1, e2]
  omega
theorem tFields_len {m : Int} (h : m ≤ 400) : (tFields m).length ≤ 2000 := by
  have e1 : ("HTTP/1.0\n" : Str).length = 9 := by decide +kernel
  have e2 : ("!:\n" : Str).length = 3 := by decide +kernel
  unfold tFields
  rw [len_app, repS_len, e1, e2]
  omega
theorem known_dlen {m : Int} (h : m ≤ 1000) : (("HTTP/1.0\n" : Str) ++ "CONTENT-LENGTH:0").length + (repS "0" m.toNat).length ≤ 100000 := by
  have e1 : (("HTTP/1.0\n" : Str) ++ "CONTENT-LENGTH:0").length = 25 := by decide +kernel
  have e2 : ("0" : Str).length = 1 := by decide +kernel
  rw [repS_len, e1, e2]
  omega
theorem known_dlen2 {m : Int} (h : m ≤ 1000) : (("HTTP/1.0\n" : Str) ++ "CONTENT-LENGTH:0" ++ repS "0" m.toNat).length + ("\n\n" : Str).length ≤ 100000 := by
  have e1 : (("HTTP/1.0\n" : Str) ++ "CONTENT-LENGTH:0").length = 25 := by decide +kernel
  have e2 : ("0" : Str).length = 1 := by decide +kernel
  have e3 : ("\n\n" : Str).length = 2 := by decide +kernel
  rw [len_app, repS_len, e1, e2, e3]
  omega
theorem tDigits_ok (m : Int) : okS (tDigits m) := okS_app (by decide +kernel) (okS_app (okS_app (by decide +kernel) (okS_rep (by decide +kernel) _)) (by decide +kernel))
theorem tDigits_len {m : Int} (h : m ≤ 1000) : (tDigits m).length ≤ 2000 := by
  have e1 : ("HTTP/1.0\n" : Str).length = 9 := by decide +kernel
  have e2 : ("CONTENT-LENGTH:" : Str).length = 15 := by decide +kernel
  have e3 : ("0" : Str).length = 1 := by decide +kernel
  have e4 : ("\n\n" : Str).length = 2 := by decide +kernel
  unfold tDigits
  rw [len_app, len_app, len_app, repS_len, e1, e2, e3, e4]
  omega
theorem ok__law_known (T : Tx K mg) : FnOk P w K mg base CX0 4 (He.fAd K d__law_known.at_) (fdt K d__law_known.at_) ["_law_one", "_law_other"] sp_known :=
  FunD.ok T.F__law_known sc__law_known (fun _ _ _ _ ⟨_, _, _, _, e, _⟩ => by subst e; rfl) fun cdv A outer s H vs Q E hr ⟨a, b, o, n, ev, h1, h2, k1, k2, q⟩ => by
    subst ev
    have hu := hu_of hr
    refine ⟨_, PSs.nox (pss_cons (ps_asg (pe_tup (pa_cons (pe_lst (pa_cons pe_int (pa_cons pe_int (pa_cons pe_int (pa_cons pe_int pa_nil))))) (pa_cons (pe_lst pa_nil) (pa_cons pe_str (pa_cons pe_str pa_nil))))) (pg_tup rfl (pgs_cons (pg_name (i := 2) sc__law_known.nd rfl (Or.inl rfl)) (pgs_cons (pg_name (i := 3) sc__law_known.nd rfl (Or.inl rfl)) (pgs_cons (pg_name (i := 4) sc__law_known.nd rfl (Or.inl rfl)) (pgs_cons (pg_name (i := 5) sc__law_known.nd rfl (Or.inl rfl)) pgs_nil))))))
      (pss_cons (ps_asg (pe_tup (pa_cons pe_str (pa_cons pe_str pa_nil))) (pg_tup rfl (pgs_cons (pg_name (i := 6) sc__law_known.nd rfl (Or.inl rfl)) (pgs_cons (pg_name (i := 7) sc__law_known.nd rfl (Or.inl rfl)) pgs_nil))))
      (Evl.pss_cut (ps_if (pt_cmpR op_ne (pe_dget hu (pv 0) pe_str (fun _ _ => rfl)) (pe_dget hu (pv 1) pe_str (fun _ _ => rfl)) (nomark _)) (pss_cons (ps_set (i := 8) sc__law_known.nd rfl (Or.inl rfl) (pe_ifExp (pt_cmpR (op_eqD hr.units) (pe_lst (pa_cons (pe_dget hu (pv 0) pe_str (fun _ _ => rfl)) (pa_cons (pe_dget hu (pv 1) pe_str (fun _ _ => rfl)) pa_nil))) (pe_lst (pa_cons pe_str (pa_cons pe_str pa_nil))) (nomark _)) (pv 4) (pv 5)))
      (pss_one (ps_expr (pe_bm PySem.F.plainAttrs_list PySem.F.slot_list_append PySem.F.type_list_append mt_append (pv 3) (pa_cons (pe_op op_cat (pv 2) (pe_call (ok_octets T) (hr.mono (by decide)) rfl (T.g_octets) (T.kp_octets) (T.b_octets) .nil pass0 (pa_cons (pe_op op_add_str (pe_op op_add_str (pe_op op_add_str (pe_op op_add_str (pv 8) (pv 7)) pe_str) (pv 6)) pe_str) pa_nil))) pa_nil))))) pss_nil)
      (Evl.pss_cut (ps_if (pt_cmpR op_ne (pe_dget hu (pv 0) pe_str (fun _ _ => rfl)) (pe_dget hu (pv 1) pe_str (fun _ _ => rfl)) (nomark _)) (pss_one (ps_expr (pe_bm PySem.F.plainAttrs_list PySem.F.slot_list_append PySem.F.type_list_append mt_append (pv 3) (pa_cons (pe_op op_cat (pv 2) (pe_call (ok_octets T) (hr.mono (by decide)) rfl (T.g_octets) (T.kp_octets) (T.b_octets) .nil pass0 (pa_cons (pe_op op_add_str (pe_op op_add_str (pv 4) (pv 7)) pe_str) pa_nil))) pa_nil)))) pss_nil)
      (Evl.pss_cut (ps_if (pt_cmpR op_ne (pe_dget hu (pv 0) pe_str (fun _ _ => rfl)) (pe_dget hu (pv 1) pe_str (fun _ _ => rfl)) (nomark _)) (pss_one (ps_expr (pe_bm PySem.F.plainAttrs_list PySem.F.slot_list_append PySem.F.type_list_append mt_append (pv 3) (pa_cons (pe_op op_cat (pv 2) (pe_call (ok_octets T) (hr.mono (by decide)) rfl (T.g_octets) (T.kp_octets) (T.b_octets) .nil pass0 (pa_cons (pe_op op_add_str (pe_op op_add_str (pv 4) (pv 6)) pe_str) pa_nil))) pa_nil)))) pss_nil)
      (Evl.pss_cut (ps_if (pt_cmpR op_ne (pe_dget hu (pv 0) pe_str (fun _ _ => rfl)) (pe_dget hu (pv 1) pe_str (fun _ _ => rfl)) (nomark _)) (pss_one (ps_expr (pe_bm PySem.F.plainAttrs_list PySem.F.slot_list_append PySem.F.type_list_append mt_append (pv 3) (pa_cons (pe_op op_cat (pe_op op_cat (pv 2) (pe_call (ok_octets T) (hr.mono (by decide)) rfl (T.g_octets) (T.kp_octets) (T.b_octets) .nil pass0 (pa_cons (pe_op op_add_str (pv 4) pe_str) pa_nil))) (pe_lst (pa_cons pe_int pa_nil))) pa_nil)))) pss_nil)
      (Evl.pss_cut (ps_if (pt_cmpR op_ne (pe_dget hu (pv 0) pe_str (fun _ _ => rfl)) (pe_dget hu (pv 1) pe_str (fun _ _ => rfl)) (nomark _)) (pss_one (ps_expr (pe_bm PySem.F.plainAttrs_list PySem.F.slot_list_append PySem.F.type_list_append mt_append (pv 3) (pa_cons (pe_op op_rep (pe_lst (pa_cons pe_int pa_nil)) (pe_op op_add pe_int (pe_callB (call_min2 rfl) (by rfl) (T.f_min) (by decide +kernel) (pa_cons (pe_dget hu (pv 0) pe_str (fun _ _ => rfl)) (pa_cons (pe_dget hu (pv 1) pe_str (fun _ _ => rfl)) pa_nil))))) pa_nil)))) pss_nil)
      (Evl.pss_cut (ps_if (pt_cmpR op_ne (pe_dget hu (pv 0) pe_str (fun _ _ => rfl)) (pe_dget hu (pv 1) pe_str (fun _ _ => rfl)) (nomark _)) (pss_one (ps_expr (pe_bm PySem.F.plainAttrs_list PySem.F.slot_list_append PySem.F.type_list_append mt_append (pv 3) (pa_cons (pe_op op_cat (pv 2) (pe_call (ok_octets T) (hr.mono (by decide)) rfl (T.g_octets) (T.kp_octets) (T.b_octets) .nil pass0 (pa_cons (pe_op op_add_str (pv 4) (pe_op op_mul_str pe_str (pe_op op_add pe_int (pe_callB (call_min2 rfl) (by rfl) (T.f_min) (by decide +kernel) (pa_cons (pe_dget hu (pv 0) pe_str (fun _ _ => rfl)) (pa_cons (pe_dget hu (pv 1) pe_str (fun _ _ => rfl)) pa_nil)))))) pa_nil))) pa_nil)))) pss_nil)
      (Evl.pss_cut (ps_if (pt_cmpR op_ne (pe_dget hu (pv 0) pe_str (fun _ _ => rfl)) (pe_dget hu (pv 1) pe_str (fun _ _ => rfl)) (nomark _)) (pss_one (ps_expr (pe_bm PySem.F.plainAttrs_list PySem.F.slot_list_append PySem.F.type_list_append mt_append (pv 3) (pa_cons (pe_op op_cat (pv 2) (pe_call (ok_octets T) (hr.mono (by decide)) rfl (T.g_octets) (T.kp_octets) (T.b_octets) .nil pass0 (pa_cons (pe_op op_add_str (pe_op op_add_str (pe_op op_add_str (pv 4) (pv 7)) (pe_op op_mul_str pe_str (pe_callB (call_min2 rfl) (by rfl) (T.f_min) (by decide +kernel) (pa_cons (pe_dget hu (pv 0) pe_str (fun _ _ => rfl)) (pa_cons (pe_dget hu (pv 1) pe_str (fun _ _ => rfl)) pa_nil))))) pe_str) pa_nil))) pa_nil)))) pss_nil)
      (pss_one (ps_ret (pv 3)))))))))))), ?_⟩
    have hz : ∀ {xs : List V}, xs.length ≤ 10 → xs.length ≤ sizeLine := fun h => Nat.le_trans h (by decide)
    refine ⟨hz (by show 4 ≤ 10; decide), fun bg hbg => ⟨hz (by show 0 ≤ 10; decide), fun l hl => ⟨hz (by show 4 ≤ 10; decide), fun t ht => ⟨t, _, rfl, st_of upd_same, rfl, _, _, rfl, _, _, rfl, _, _, rfl, _, _, rfl, rfl, ?_⟩⟩⟩⟩
    refine ⟨hz (by show 2 ≤ 10; decide), fun t2 ht2 => ⟨t2, _, rfl, st_of upd_same, rfl, _, _, rfl, _, _, rfl, rfl, ?_⟩⟩
    have eb : Ex H (upd H bg (.lst (vI [33, 9, 33, 9]))) := Ex.new hbg
    have el := Ex.new (o := .lst []) hl
    have et := Ex.new (o := .tup [.ref bg, .ref l, .str "HTTP/1.0\n", .str "HTTP/1.1\n"]) ht
    have et2 := Ex.new (o := .tup [.str "TRANSFER-ENCODING:CHUNKED\n", .str "CONTENT-LENGTH:0"]) ht2
    have f0 : Fd (upd H bg (.lst (vI [33, 9, 33, 9]))) l [] _ := .start hl (el.trans (et.trans et2)) (et2 l _ (et l _ upd_same))
    have gb : upd H bg (.lst (vI [33, 9, 33, 9])) bg = some (.lst (vI [33, 9, 33, 9])) := upd_same
    have ga := eb a _ h1
    have gn := eb b _ h2
    revert f0 gb ga gn eb
    generalize hB : upd H bg (.lst (vI [33, 9, 33, 9])) = Hb
    intro eb f0 gb ga gn
    have tst : ∀ {σ : L2.St} {H' : Hp} {f : Str} {x y : V}, σ[0]? = some (some (.ref a)) → σ[1]? = some (some (.ref b)) → Ex Hb H' → kV (.inr f) = .str f → valV (dOp o) (.inr f) = some x → valV (dOp n) (.inr f) = some y → scal x y = true →
        EvT (tTest (tOp rNe (tDGet (tVar 0) (tC (.str f))) (tDGet (tVar 1) (tC (.str f))))) σ H' (!decide (x = y)) := fun s0 s1 e _ v1 v2 hs =>
      et_test (ev_ne (ev_dget (k := .inr _) (ev_var s0) ev_c (e a _ ga) v1) (ev_dget (k := .inr _) (ev_var s1) ev_c (e b _ gn) v2) hs)
    have mnd : ∀ {σ : L2.St} {H' : Hp} {f : Str} {x y : Int}, σ[0]? = some (some (.ref a)) → σ[1]? = some (some (.ref b)) → Ex Hb H' → valV (dOp o) (.inr f) = some (.int x) → valV (dOp n) (.inr f) = some (.int y) →
        Ev (tCB (fun xs H Q => ∃ i j, xs = [.int i, .int j] ∧ Q (.int (if j < i then j else i)) H) (tCons (tDGet (tVar 0) (tC (.str f))) (tCons (tDGet (tVar 1) (tC (.str f))) tNil))) σ H' (.int (mn x y)) := fun s0 s1 e v1 v2 =>
      ev_min2 (ev_dget (k := .inr _) (ev_var s0) ev_c (e a _ ga) v1) (ev_dget (k := .inr _) (ev_var s1) ev_c (e b _ gn) v2)
    obtain ⟨_, _, oo, o1, o2, o3, o4, o5, o6⟩ := k1
    obtain ⟨_, _, no, n1, n2, n3, n4, n5, n6⟩ := k2
    have g1 := mn_ge o1 n1
    have g2 := mn_le o2 n2
    have g3 := mn_ge o3 n3
    have g4 := mn_le o4 n4
    have g5 := mn_ge o5 n5
    have g6 := mn_le o6 n6
    refine ⟨fun σ' H' => (∃ u, σ' = [some (.ref a), some (.ref b), some (.ref bg), some (.ref l), some (.str "HTTP/1.0\n"), some (.str "HTTP/1.1\n"), some (.str "TRANSFER-ENCODING:CHUNKED\n"), some (.str "CONTENT-LENGTH:0"), u]) ∧
      Fd Hb l ([] ++ if (!decide (V.str o.both = V.str n.both)) = true then [d1 o n] else []) H' ∧ ([] ++ if (!decide (V.str o.both = V.str n.both)) = true then [d1 o n] else []).length ≤ 1, ?_, fun σ' H' mid => ?_⟩
    · refine s_if (tst rfl rfl f0.2.1 rfl (dk_both o) (dk_both n) rfl) (fun hb H1 e1 => ?_) fun hb H1 e1 => ⟨⟨_, rfl⟩, ?_, ?_⟩
      · have f1 := f0.ex e1
        have hv : EvT (tTest (tOp (rEqD K) (tLst (tCons (tDGet (tVar 0) (tC (.str "old_chunked"))) (tCons (tDGet (tVar 1) (tC (.str "old_chunked"))) tNil))) (tLst (tCons (tC (.str "accept")) (tCons (tC (.str "accept")) tNil)))))
            [some (.ref a), some (.ref b), some (.ref bg), some (.ref l), some (.str "HTTP/1.0\n"), some (.str "HTTP/1.1\n"), some (.str "TRANSFER-ENCODING:CHUNKED\n"), some (.str "CONTENT-LENGTH:0"), none] H1 (decide (o.old = "accept") && decide (n.old = "accept")) := by
          refine et_test (ev_opLL (el_lst (ea_cons (ev_dget (k := .inr _) (ev_var rfl) ev_c (f1.2.1 a _ ga) (dk_old_chunked o)) (ea_cons (ev_dget (k := .inr _) (ev_var rfl) ev_c (f1.2.1 b _ gn) (dk_old_chunked n)) ea_nil)) (by show 2 ≤ _; decide)) (el_lst (ea_cons ev_c (ea_cons ev_c ea_nil)) (by show 2 ≤ _; decide)) fun p p' H2 hp hp' e2 => fun H3 e3 Q' q' => ?_)
          refine ⟨.list [.str o.old, .str n.old], .list [.str "accept", .str "accept"], .lst (sq_of (e3 p _ hp)) (.cons (.str _) (.cons (.str _) .nil)), .lst (sq_of (e3 p' _ hp')) (.cons (.str _) (.cons (.str _) .nil)), shaped_ss (acc_ok oo) (acc_ok no), shaped_ss (by decide +kernel) (by decide +kernel), ?_⟩
          rw [eqv_ss]
          exact q' H3 (Ex.refl H3)
        refine q_asg (v := .str (if o.old = "accept" ∧ n.old = "accept" then "HTTP/1.0\n" else "HTTP/1.1\n")) (ev_if hv (fun hb => ev_is (ev_var rfl) ?_) fun hb => ev_is (ev_var rfl) ?_) fun H2 e2 => ?_
        · rw [Bool.and_eq_true] at hb
          rw [if_pos ⟨of_decide_eq_true hb.1, of_decide_eq_true hb.2⟩]
        · rw [if_neg]
          rintro ⟨z1, z2⟩
          rw [z1, z2, decide_eq_true rfl] at hb
          cases hb
        · have f2 := f1.ex e2
          obtain ⟨ps, gl, pr⟩ := f2.2.2
          cases pr
          refine s_appL (l := l) (xs := []) gl (ev_var rfl) (el_known (y := tBoth o.old n.old) rfl (f2.2.1 bg _ gb) (ev_str (ev_str (ev_str (ev_str (ev_var rfl) (ev_var rfl) ?_) ev_c ?_) (ev_var rfl) ?_) ev_c ?_) ?_ (tBoth_ok _ _).1 (tBoth_ok _ _).2) (by decide) fun p H3 hp e3 h3 => ⟨⟨_, rfl⟩, ?_, ?_⟩
          · split <;> decide +kernel
          · split <;> decide +kernel
          · split <;> decide +kernel
          · split <;> decide +kernel
          · unfold tBoth
            split <;> kernel_rfl
          · obtain ⟨xs, gx, _, f3⟩ := f2.add (d := d1 o n) e3 hp h3
            rw [gl] at gx
            cases gx
            rw [hb]
            exact f3
          · rw [hb]
            show 1 ≤ 1
            decide
      · rw [hb, if_neg Bool.false_ne_true]
        exact f0.ex e1
      · rw [hb, if_neg Bool.false_ne_true]
        decide
    obtain ⟨⟨u, rfl⟩, f1, z1⟩ := mid
    refine fd_if (d := d2) f1 rfl (tst rfl rfl f1.2.1 rfl (dk_lengths o) (dk_lengths n) rfl) (fun _ K1 g => el_known (y := "HTTP/1.0\nCONTENT-LENGTH:0,0\n\n") rfl ((f1.2.1.trans g) bg _ gb) (ev_str (ev_str (ev_var rfl) (ev_var rfl) (by decide +kernel)) ev_c (by decide +kernel)) (by kernel_rfl) (by decide +kernel) (by decide +kernel)) z1 fun H3 f2 z2 => ?_
    refine fd_if (d := d3) f2 rfl (tst rfl rfl f2.2.1 rfl (dk_old_chunked o) (dk_old_chunked n) rfl) (fun _ K1 g => el_known (y := "HTTP/1.0\nTRANSFER-ENCODING:CHUNKED\n\n") rfl ((f2.2.1.trans g) bg _ gb) (ev_str (ev_str (ev_var rfl) (ev_var rfl) (by decide +kernel)) ev_c (by decide +kernel)) (by kernel_rfl) (by decide +kernel) (by decide +kernel)) z2 fun H4 f3 z3 => ?_
    refine fd_if (d := d4) f3 rfl (tst rfl rfl f3.2.1 rfl (dk_keep_old o) (dk_keep_old n) rfl) (fun _ K1 g => el_is (el_cat (el_known (y := "HTTP/1.0\nCONNECTION:KEEP-ALIVE\n\n") rfl ((f3.2.1.trans g) bg _ gb) (ev_str (ev_var rfl) ev_c (by decide +kernel)) (by kernel_rfl) (by decide +kernel) (by decide +kernel)) (el_lst (ea_cons ev_c ea_nil) (by decide)) (by decide +kernel)) (vI_app _ [0])) z3 fun H5 f4 z4 => ?_
    refine fd_if (d := d5 o n) f4 rfl (tst rfl rfl f4.2.1 rfl (dk_most_line o) (dk_most_line n) rfl) (fun _ K1 g => el_is (el_rep (k := 1 + mn o.line n.line) (el_lst (ea_cons ev_c ea_nil) (by show 1 ≤ _; decide)) (fun H9 e9 => ev_I0 ev_c (mnd rfl rfl ((f4.2.1.trans g).trans e9) (dk_most_line o) (dk_most_line n))) (by omega) (by omega) (by show 1 * _ ≤ _; omega)) (known_line _ _)) z4 fun H6 f5 z5 => ?_
    refine fd_if (d := d6 o n) f5 rfl (tst rfl rfl f5.2.1 rfl (dk_most_fields o) (dk_most_fields n) rfl) (fun _ K1 g => el_known (y := tFields (mn o.fields n.fields + 1)) rfl ((f5.2.1.trans g) bg _ gb) (ev_str (ev_var rfl) (ev_mulS (k := 1 + mn o.fields n.fields) ev_c (ev_I0 ev_c (mnd rfl rfl (f5.2.1.trans g) (dk_most_fields o) (dk_most_fields n))) (by omega) (by omega) (by decide)) (known_flen (by omega))) (by rw [Int.add_comm] <;> rfl) (okS_app (by decide +kernel) (okS_rep (by decide +kernel) _)) (tFields_len (by omega))) z5 fun H7 f6 z6 => ?_
    refine fd_if (d := d7 o n) f6 rfl (tst rfl rfl f6.2.1 rfl (dk_most_digits o) (dk_most_digits n) rfl) (fun _ K1 g => el_known (y := tDigits (mn o.digits n.digits + 1)) rfl ((f6.2.1.trans g) bg _ gb) (ev_str (ev_str (ev_str (ev_var rfl) (ev_var rfl) (by decide +kernel)) (ev_mulS (k := mn o.digits n.digits) ev_c (mnd rfl rfl (f6.2.1.trans g) (dk_most_digits o) (dk_most_digits n)) (by omega) (by omega) (by decide)) (known_dlen (by omega))) ev_c (known_dlen2 (by omega))) (known_digits _ (by omega)) (tDigits_ok _) (tDigits_len (by omega))) z6 fun H8 f7 z7 => ?_
    exact ev_var rfl _ (Ex.refl _) _ fun H9 e9 => q l H9 ((f7.ex e9).base eb)
end Pw
set_option Elab.async false
set_option linter.all false
set_option maxRecDepth 100000
set_option maxHeartbeats 400000
namespace Pw
open PySem PySem.Spec PyProof.Rows L2 Evl
variable {P : Program} {w : World} {K : PySem.W.Frag} {mg : Str → Option Value} {base : Heap}
open Mn
theorem unl_sym (o n : Op) : unl o n = unl n o := by
  have h1 : d1 o n = d1 n o := by
    unfold d1 tBoth
    by_cases a : o.old = "accept" <;> by_cases b : n.old = "accept" <;> simp [a, b]
  have h5 : d5 o n = d5 n o := by unfold d5; rw [mn_comm]
  have h6 : d6 o n = d6 n o := by unfold d6; rw [mn_comm]
  have h7 : d7 o n = d7 n o := by unfold d7; rw [mn_comm]
  have c (x y : V) : decide (x = y) = decide (y = x) := decide_eq_decide.mpr ⟨Eq.symm, Eq.symm⟩
  unfold unl
  rw [h1, h5, h6, h7, c (.str o.both), c (.str o.lengths), c (.str o.old), c (.bl o.keep), c (.int o.line), c (.int o.fields), c (.int o.digits)]
theorem due_sym (o n : Op) : due o n = due n o := by unfold due; rw [unl_sym]
theorem due_self (o : Op) : due o o = none := by
  have h : unl o o = [] := by
    unfold unl
    simp
  unfold due
  rw [h]
abbrev s_law : Stmt := (top 45)
abbrev sn_law : List Str := ["_law_script", "_law_k", "_law_bag_here", "_law_turn", "_law_first", "_law_second", "_law_one", "_law_two", "_law_found", "_law_data", "_law_due", "_law_told"]
theorem sc_law : FnScope sn_law ["_law_script"] (defScope s_law) := ⟨rfl, rfl, rfl, by decide +kernel, rfl, by decide +kernel, by decide +kernel⟩
def sp_law (K : PySem.W.Frag) : Sp := fun vs H Q _ => ∃ (a : Addr) (ns : List Int), vs = [.ref a] ∧ SqL K H a (vI ns) ∧ ns.length ≤ 1000 ∧ ∀ H', Q (.bl true) H'
theorem law_start (T : Tx K mg) {H : Hp} {a : Addr} {ns : List Int} (hl : ns.length ≤ 63) (hO : Only H) (hS : SqL K H a (ns.map V.int)) : sp_law K [.ref a] H (fun v _ => v = .bl true) fun _ _ _ => False := ⟨a, ns, rfl, hS, by omega, fun _ => rfl⟩
theorem ex_fr {p : Addr} {H0 H H' : Hp} (h : H0 p = none) (e : Ex H0 H) (f : Fr p H H') : Ex H0 H' := fun b u hb => f b u (fun z => by rw [z, h] at hb; cases hb) (e b u hb)
/-- what stands in due -/
def DueV (H : Hp) (v : V) : Option (List Int) → Prop
  | none => v = .non
  | some d => ∃ q, v = .ref q ∧ isL H q d
theorem el_part {σ : L2.St} {H : Hp} {ta tb : TE} {a b : Addr} {o n : Op} {d : List Int} (ha : Ev ta σ H (.ref a)) (hb : Ev tb σ H (.ref b)) (h1 : Bk K H a o) (h2 : Bk K H b n) (k1 : o.ok) (k2 : n.ok) (hd : due o n = some d) : EvL (tCall (sp_parting (K := K)) [] E0 (tCons ta (tCons tb tNil))) σ H (vI d) :=
  el_call (vs := [.ref a, .ref b]) (ea_cons ha (ea_cons hb ea_nil)) fun H1 e1 Q1 q1 E1 => ⟨a, b, o, n, rfl, h1.ex e1, h2.ex e1, k1, k2, by rw [hd]; exact q1⟩
theorem ev_part {σ : L2.St} {H : Hp} {ta tb : TE} {a b : Addr} {o n : Op} (ha : Ev ta σ H (.ref a)) (hb : Ev tb σ H (.ref b)) (h1 : Bk K H a o) (h2 : Bk K H b n) (k1 : o.ok) (k2 : n.ok) (hd : due o n = none) : Ev (tCall (sp_parting (K := K)) [] E0 (tCons ta (tCons tb tNil))) σ H .non :=
  ev_call (vs := [.ref a, .ref b]) (ea_cons ha (ea_cons hb ea_nil)) fun H1 e1 Q1 q1 E1 => ⟨a, b, o, n, rfl, h1.ex e1, h2.ex e1, k1, k2, by rw [hd]; exact q1⟩
theorem rv_neN {H : Hp} : RV (rNeD K) .non .non H (.bl false) := fun H1 _ Q q => ⟨.none, .none, .non, .non, by decide, by decide, by
  have : (!PyData.eqv .none .none) = false := by simp [PyData.eqv]
  rw [this]
  exact q H1 (Ex.refl H1)⟩
theorem rv_neL {H : Hp} {p q : Addr} {d : List Int} (h1 : isL H p d) (h2 : isL H q d) : RV (rNeD K) (.ref p) (.ref q) H (.bl false) := fun H1 e Q k => ⟨encL d, encL d, dp_list (e p _ h1), dp_list (e q _ h2), shaped_ints d, shaped_ints d, by
  have : (!PyData.eqv (encL d) (encL d)) = false := by
    unfold encL
    rw [eqv_list]
    simp
  rw [this]
  exact k H1 (Ex.refl H1)⟩
theorem dpAll_of {H : Hp} : ∀ {bs : List (V × List Int)}, (∀ b ∈ bs, Dp K H b.1 (enc b.2)) → DpAll K H (bs.map (·.1)) (bs.map fun b => enc b.2)
  | [], _ => .nil
  | b :: bs, h => .cons (h b List.mem_cons_self) (dpAll_of fun c hc => h c (List.mem_cons_of_mem _ hc))
theorem enc_lay (d : List Int) : (enc d).canLay0 = true := by simp [enc, PyData.canLay0, PyData.canLayAll0, lay_ints]
theorem lay_encs : ∀ ds : List (V × List Int), PyData.canLayAll0 (ds.map fun b => enc b.2) = true
  | [] => by simp [PyData.canLayAll0]
  | d :: ds => by
    show PyData.canLayAll0 (enc d.2 :: ds.map fun b => enc b.2) = true
    rw [PyData.canLayAll0, enc_lay, lay_encs ds] <;> rfl
theorem shaped_encs (ds : List (V × List Int)) : SeqAt.shaped (.list (ds.map fun b => enc b.2)) = true := by
  have h := encs_depth (ds.map (·.2))
  rw [List.map_map] at h
  show (PyData.canLay0 (.list (ds.map fun b => enc b.2)) && decide (PyData.depth (.list (ds.map fun b => enc b.2)) ≤ 64)) = true
  rw [Bool.and_eq_true]
  exact ⟨by simp only [PyData.canLay0]; exact lay_encs ds, decide_eq_true (by
    simp only [PyData.depth]
    have h' : PyData.depthAll (ds.map fun b => enc b.2) ≤ 5 := h
    omega)⟩
end Pw
set_option Elab.async false
set_option linter.all false
set_option maxRecDepth 100000
set_option maxHeartbeats 400000
namespace Pw
open PySem PySem.Spec PyProof.Rows L2 Evl
variable {P : Program} {w : World} {K : PySem.W.Frag} {mg : Str → Option Value} {base : Heap}
open Mn
theorem atI_zero {v : V} {r : List V} : atI (v :: r) 0 = some v := by
  unfold atI
  have h := ixN_nat (n := (v :: r).length) (j := 0) (Nat.succ_pos _)
  rw [show ((0 : Nat) : Int) = 0 from rfl] at h
  rw [h] <;> rfl
theorem rv_notN {x : V} {H : Hp} : RV (fun x y H Q => y = .non ∧ Q (.bl (!decide (x = .non))) H) x .non H (.bl (!decide (x = .non))) := fun H1 _ Q q => ⟨rfl, q H1 (Ex.refl H1)⟩
theorem msg_len {x : Str} (h : x.length ≤ 2000) : (msg x).length ≤ 5000 := by
  have a := octs_len x.cps.toList
  have b : x.cps.toList.length = x.length := by rw [Array.length_toList] <;> rfl
  unfold msg octI
  rw [List.length_append]
  show 4 + _ ≤ _
  omega
theorem unl_small {o n : Op} (k1 : o.ok) (k2 : n.ok) : ∀ d ∈ unl o n, d.length ≤ 5001 := by
  obtain ⟨_, _, _, o1, o2, o3, o4, o5, o6⟩ := k1
  obtain ⟨_, _, _, n1, n2, n3, n4, n5, n6⟩ := k2
  have g2 := mn_le o2 n2
  have g4 := mn_le o4 n4
  have g6 := mn_le o6 n6
  have one {b : Bool} {x d : List Int} (h : d ∈ (if b = true then [x] else [])) : d = x := by
    cases b with
    | true => exact List.mem_singleton.mp h
    | false => cases h
  intro d hd
  unfold unl at hd
  simp only [List.mem_append] at hd
  rcases hd with (((((((h | h) | h) | h) | h) | h) | h) | h)
  · cases h
  · rw [one h]; exact Nat.le_trans (msg_len (tBoth_ok _ _).2) (by decide)
  · rw [one h]; decide +kernel
  · rw [one h]; decide +kernel
  · rw [one h]; decide +kernel
  · rw [one h]
    unfold d5
    rw [List.length_replicate]
    omega
  · rw [one h]; exact Nat.le_trans (msg_len (tFields_len (by omega))) (by decide)
  · rw [one h]; exact Nat.le_trans (msg_len (tDigits_len (by omega))) (by decide)
theorem due_small {o n : Op} {d : List Int} (k1 : o.ok) (k2 : n.ok) (h : due o n = some d) : d.length < 100000 := by
  unfold due at h
  cases hu : unl o n with
  | nil => rw [hu] at h; cases h
  | cons x xs =>
    rw [hu] at h
    obtain rfl := Option.some.inj h
    have := unl_small k1 k2 _ (by rw [hu]; exact (best_is xs x).1)
    omega
def lk (m : Int) : Int := if (if m < 8 then m else 8) > 4 then (if m < 8 then m else 8) else 4
theorem lk_le (m : Int) : 0 ≤ lk m ∧ lk m ≤ 100000 := by unfold lk; split <;> split <;> omega
theorem lk_8 (m : Int) : lk m ≤ 8 := by unfold lk; split <;> split <;> omega
theorem ok_law (T : Tx K mg) : FnOk P w K mg base CX0 9 (He.fAd K d_law.at_) (fdt K d_law.at_) ["_law_script"] (sp_law K) :=
  FunD.ok T.F_law sc_law (fun _ _ _ _ ⟨_, _, e, _⟩ => by subst e; rfl) fun cdv A outer s H vs Q E hr ⟨a, ns, ev, hS, hns, q⟩ => by
    subst ev
    refine ⟨_, PSs.nox (pss_cons (ps_for PassesOwn.never rfl (pi_range1 (by rfl) (T.f_range) (pa_cons (pe_callB (call_max2 rfl) (by rfl) (T.f_max) (by decide +kernel) (pa_cons pe_int (pa_cons (pe_callB (call_min2 rfl) (by rfl) (T.f_min) (by decide +kernel) (pa_cons pe_int (pa_cons (pe_callB call_len_seq (by rfl) (T.f_len) (by decide +kernel) (pa_cons (pv 0) pa_nil)) pa_nil))) pa_nil))) pa_nil)) (pg_name (i := 1) sc_law.nd rfl (Or.inl rfl)) (pss_cons (ps_set (i := 2) sc_law.nd rfl (Or.inl rfl) (pe_call (ok__law_bag T) (hr.mono (by decide)) rfl (T.g__law_bag) (T.kp__law_bag) (T.b__law_bag) .nil pass0 (pa_cons (pv 0) (pa_cons (pv 1) pa_nil))))
      (pss_one (ps_for PassesOwn.never rfl (pi_range1 (by rfl) (T.f_range) (pa_cons pe_int pa_nil)) (pg_name (i := 3) sc_law.nd rfl (Or.inl rfl)) (pss_cons (ps_asg (pe_call (ok__law_options T) (hr.mono (by decide)) rfl (T.g__law_options) (T.kp__law_options) (T.b__law_options) .nil pass0 (pa_cons (pv 2) pa_nil)) (pg_tup rfl (pgs_cons (pg_name (i := 4) sc_law.nd rfl (Or.inl rfl)) (pgs_cons (pg_name (i := 5) sc_law.nd rfl (Or.inl rfl)) pgs_nil))))
      (pss_cons (ps_par (i := 6) (j := 7) rfl sc_law.nd rfl rfl (by decide) rfl rfl (pa_cons (pe_call (ok__law_made_book T) (hr.mono (by decide)) rfl (T.g__law_made_book) (T.kp__law_made_book) (T.b__law_made_book) .nil pass0 (pa_cons (pv 4) pa_nil)) (pa_cons (pe_call (ok__law_made_book T) (hr.mono (by decide)) rfl (T.g__law_made_book) (T.kp__law_made_book) (T.b__law_made_book) .nil pass0 (pa_cons (pv 5) pa_nil)) pa_nil)) rfl)
      (pss_cons (ps_set (i := 8) sc_law.nd rfl (Or.inl rfl) (pe_callB (cr_sortE hr.units) (by rfl) (T.f_sorted) (by decide +kernel) (pa_cons (pe_lc (own := [("_law_data", 9)]) rfl sc_law.nd (pi_list (pe_call (ok__law_known T) (hr.mono (by decide)) rfl (T.g__law_known) (T.kp__law_known) (T.b__law_known) .nil pass0 (pa_cons (pv 4) (pa_cons (pv 5) pa_nil)))) (blkOk_by (N := sn_law) (sc := defScope s_law) (by decide +kernel)) (fun _ _ _ _ _ => (pg_name (i := 9) sc_law.nd rfl (Or.inl rfl))) (fun _ _ _ _ _ => pts_nil) (fun _ _ _ _ _ => (pe_tup (pa_cons (pe_callB (call_len_seqK (K := K) rfl) (by rfl) (T.f_len) (by decide +kernel) (pa_cons (pv 9) pa_nil)) (pa_cons (pv 9) pa_nil))))) pa_nil)))
      (pss_cons (ps_set (i := 10) sc_law.nd rfl (Or.inl rfl) (pe_ifExp (pt_cmpR (op_eqD hr.units) (pv 8) (pe_lst pa_nil) (nomark _)) pe_non (pe_ix ix_tup (pe_ix ix_list (pv 8) pe_int (fun _ _ => rfl)) pe_int (fun _ _ => rfl))))
      (pss_cons (ps_set (i := 11) sc_law.nd rfl (Or.inl rfl) (pe_call (ok_parting T) (hr.mono (by decide)) rfl (T.g_parting) (T.kp_parting) (T.b_parting) .nil pass0 (pa_cons (pv 6) (pa_cons (pv 7) pa_nil))))
      (pss_cons (ps_if (PW.pt (pw_or (pt_cmpR (op_neD hr.units) (pv 11) (pv 10) (nomark _)) (pw_or (pt_cmpR (op_neD hr.units) (pe_call (ok_parting T) (hr.mono (by decide)) rfl (T.g_parting) (T.kp_parting) (T.b_parting) .nil pass0 (pa_cons (pv 7) (pa_cons (pv 6) pa_nil))) (pv 10) (nomark _)) (pw_or1 (pt_cmpR op_notN (pe_call (ok_parting T) (hr.mono (by decide)) rfl (T.g_parting) (T.kp_parting) (T.b_parting) .nil pass0 (pa_cons (pv 6) (pa_cons (pv 6) pa_nil))) pe_non (nomark _)))))) (pss_one (ps_ret pe_bl)) pss_nil)
      (pss_one (ps_if (pt_cmpR op_notN (pv 11) pe_non (nomark _)) (pss_cons (ps_expr (pe_bm PySem.F.plainAttrs_list PySem.F.slot_list_append PySem.F.type_list_append mt_append (pv 11) (pa_cons pe_int pa_nil)))
      (pss_one (ps_if (pt_cmpR (op_neD hr.units) (pe_call (ok_parting T) (hr.mono (by decide)) rfl (T.g_parting) (T.kp_parting) (T.b_parting) .nil pass0 (pa_cons (pv 6) (pa_cons (pv 7) pa_nil))) (pv 10) (nomark _)) (pss_one (ps_ret pe_bl)) pss_nil))) pss_nil))))))))))))
      (pss_one (ps_ret pe_bl))), ?_⟩
    refine q_forR1 (n := lk ((ns.map V.int).length : Nat)) (ea_cons (ev_max2 ev_c (ev_min2 ev_c (ev_lenL (ev_var rfl) hS))) ea_nil) (lk_le _)
      (fun i σ' H' => (∃ u1 u2 u3 u4 u5 u6 u7 u8 u9 u10 u11, σ' = [some (.ref a), u1, u2, u3, u4, u5, u6, u7, u8, u9, u10, u11]) ∧ Ex H H') (fun H1 e1 => ⟨⟨_, _, _, _, _, _, _, _, _, _, _, rfl⟩, e1⟩) (fun i σ' H' hi pv => ?_) fun σ' H' pv => ?_
    · obtain ⟨⟨u1, u2, u3, u4, u5, u6, u7, u8, u9, u10, u11, rfl⟩, e0⟩ := pv
      have hi8 : i < 1000 := by
        have := (lk_le ((ns.map V.int).length : Nat)).2
        have := lk_8 ((ns.map V.int).length : Nat)
        omega
      refine ⟨_, rfl, _, rfl, a, ns, i, rfl, ex_l e0 hS, hi8, fun d st hd hs hs2 p H2 hp e2 h2 => ?_⟩
      have hp0 : H p = none := fresh_back e0 hp
      refine s_forR1 (n := 4) (ea_cons ev_c ea_nil) (by decide)
        (fun j σ' H' => (∃ u1 u3 u4 u5 u6 u7 u8 u9 u10 u11, σ' = [some (.ref a), u1, some (.ref p), u3, u4, u5, u6, u7, u8, u9, u10, u11]) ∧ Ex H H' ∧ ∃ d s c, Bg (20 * j) d s c ∧ H' p = some (bagV d s c))
        (fun H3 e3 => ⟨⟨_, _, _, _, _, _, _, _, _, _, rfl⟩, e0.trans (e2.trans e3), d, st, 0, by unfold Bg; omega, e3 p _ h2⟩) (fun j σ' H' hj pv => ?_) fun σ' H' pv => ?_
      · obtain ⟨⟨u1, u3, u4, u5, u6, u7, u8, u9, u10, u11, rfl⟩, e3, d, st, c, hB, gp⟩ := pv
        refine ⟨_, rfl, p, 20 * j, d, st, c, rfl, gp, hB, by omega, fun t x y o1 o2 H3 d' s' c' k1 k2 hB' fr gb gt gx gy => ⟨t, _, rfl, st_of gt, rfl, _, _, rfl, _, _, rfl, rfl, ?_⟩⟩
        have e4 : Ex H H3 := ex_fr hp0 e3 fr
        dsimp only []
        refine k_par ?_
        refine ⟨_, rfl, x, o1, rfl, gx, k1, fun a1 H4 ha1 e5 bk1 => ⟨_, rfl, y, o2, rfl, e5 y _ gy, k2, fun a2 H5 ha2 e6 bk2 => ⟨_, _, rfl, ?_⟩⟩⟩
        have bk1' := bk1.ex e6
        have e7 := e5.trans e6
        have e8 : Ex H H5 := e4.trans e7
        have gb5 := e7 p _ gb
        refine k_asg (k_cb1 (lc_tl ?_))
        refine ⟨_, rfl, _, rfl, x, y, o1, o2, rfl, e7 x _ gx, e7 y _ gy, k1, k2, fun l H6 f => ?_⟩
        obtain ⟨f0, fe, ps, hl, pr⟩ := f
        refine lc_pairs hl (paired_mono (fun _ _ r => r.1) pr) (by rw [pr.length]; exact unl_len o1 o2) (fun _ => rfl) (fun _ => rfl) fun L H7 ts e9 hL0 hL hps => ?_
        have pr7 : PySem.Paired (fun p d => isL H7 p d) ps (unl o1 o2) := paired_mono (fun p _ r => e9 p _ r.1) pr
        have hlen : ts.length = (unl o1 o2).length := hps.len
        have hz1 : ((ts.map V.ref).zip (unl o1 o2)).map (·.1) = ts.map V.ref := List.map_fst_zip (by rw [List.length_map]; omega)
        have hz2 : ((ts.map V.ref).zip (unl o1 o2)).map (·.2) = unl o1 o2 := List.map_snd_zip (by rw [List.length_map]; omega)
        have hmem : ∀ b ∈ (ts.map V.ref).zip (unl o1 o2), ∃ t q, b.1 = .ref t ∧ isP H7 t q b.2 ∧ isL H7 q b.2 := fun b hb => hps.mem pr7 hb
        refine ⟨L, (ts.map V.ref).zip (unl o1 o2), rfl, by rw [hz1]; exact sq_of hL, fun b hb => ?_, fun F hF => ?_⟩
        · obtain ⟨t, q, hb1, hb2, hb3⟩ := hmem b hb
          rw [hb1]
          exact dp_enc hb2 hb3
        have eF := Ex.new (o := .lst (((((ts.map V.ref).zip (unl o1 o2)).mergeSort (PySem.W.dataLe false fun b => enc b.2))).map (·.1))) hF
        have eA : Ex H5 _ := fe.trans (e9.trans eF)
        have gF := upd_same (H := H7) (a := F) (o := .lst (((((ts.map V.ref).zip (unl o1 o2)).mergeSort (PySem.W.dataLe false fun b => enc b.2))).map (·.1)))
        have hmem2 : ∀ b ∈ ((ts.map V.ref).zip (unl o1 o2)).mergeSort (PySem.W.dataLe false fun b => enc b.2), ∃ t q, b.1 = .ref t ∧ isP H7 t q b.2 ∧ isL H7 q b.2 := fun b hb => hmem b ((List.mergeSort_perm _ _).mem_iff.mp hb)
        have hsl : (((ts.map V.ref).zip (unl o1 o2)).mergeSort (PySem.W.dataLe false fun b => enc b.2)).length = (unl o1 o2).length := by
          rw [List.length_mergeSort, List.length_zip, List.length_map, hlen, Nat.min_self]
        have hhd : ∀ b0 r d ds, unl o1 o2 = d :: ds → ((ts.map V.ref).zip (unl o1 o2)).mergeSort (PySem.W.dataLe false fun b => enc b.2) = b0 :: r → b0.2 = best d ds := fun b0 r d ds h1 h2 => sort_head (k := fun b : V × List Int => b.2) (hz2.trans h1) h2
        revert gF eA eF hmem2 hsl hhd
        generalize ((ts.map V.ref).zip (unl o1 o2)).mergeSort (PySem.W.dataLe false fun b => enc b.2) = bs
        intro eF eA gF hmem2 hsl hhd
        refine q_asgE (P := fun v => DueV (upd H7 F (.lst (bs.map (·.1)))) v (due o1 o2)) (ex_if (b := (unl o1 o2).isEmpty) (et_test (ev_opL (ev_var rfl) (el_lst ea_nil (by decide)) fun q H8 h8 e8 => fun H9 e9 Q' q' => ?_)) (fun hb => ?_) fun hb => ?_) fun v hv H8 e10 => ?_
        · refine ⟨.list (bs.map fun b => enc b.2), .list [], .lst (sq_of (e9 F _ (e8 F _ gF))) (dpAll_of fun b hb => ?_), .lst (sq_of (e9 q _ h8)) .nil, shaped_encs bs, shaped_lists [], ?_⟩
          · obtain ⟨t, q, hb1, hb2, hb3⟩ := hmem2 b hb
            have ee := eF.trans (e8.trans e9)
            rw [hb1]
            exact dp_enc (ee t _ hb2) (ee q _ hb3)
          · rw [eqv_nil]
            have : (bs.map fun b => enc b.2).isEmpty = (unl o1 o2).isEmpty := by
              rw [List.isEmpty_map]
              cases hbs : bs <;> cases hu : unl o1 o2 <;> rw [hbs, hu] at hsl <;> first | rfl | (simp at hsl)
            rw [this]
            exact q' H9 (Ex.refl H9)
        · have hd : due o1 o2 = none := by
            unfold due
            rw [List.isEmpty_iff.mp hb]
          rw [hd]
          exact ⟨.non, rfl, ev_c⟩
        · cases hu : unl o1 o2 with
          | nil => rw [hu] at hb; cases hb
          | cons d0 ds =>
            have hd : due o1 o2 = some (best d0 ds) := by
              unfold due
              rw [hu]
            rw [hd]
            cases hbs : bs with
            | nil => rw [hbs, hu] at hsl; simp at hsl
            | cons b0 r =>
              obtain ⟨t, q, hb1, hb2, hb3⟩ := hmem2 b0 (by rw [hbs]; exact List.mem_cons_self)
              have h0 := hhd b0 r d0 ds hu hbs
              rw [h0] at hb2 hb3
              rw [hbs] at eF gF
              exact ⟨.ref q, ⟨q, rfl, eF q _ hb3⟩, ev_op (x := .ref t) (ev_op (ev_var rfl) ev_c (rv_ixL (sq_of gF) (by rw [List.map_cons, hb1]; exact atI_zero))) ev_c (rv_ixT (st_of (eF t _ hb2)) rfl)⟩
        have eB : Ex H5 H8 := eA.trans e10
        have B1 := bk1'.ex eB
        have B2 := bk2.ex eB
        have eC : Ex H H8 := e8.trans eB
        have gb8 := eB p _ gb5
        cases hdu : due o1 o2 with
        | none =>
          rw [hdu] at hv
          have hdu2 : due o2 o1 = none := by rw [due_sym]; exact hdu
          obtain rfl : v = .non := hv
          refine q_asg (ev_part (ev_var rfl) (ev_var rfl) B1 B2 k1 k2 hdu) fun H9 e11 => ?_
          refine q_when (et_or (et_test (ev_op (ev_var rfl) (ev_var rfl) rv_neN)) fun _ => et_or (et_test (ev_op (ev_part (ev_var rfl) (ev_var rfl) (B2.ex e11) (B1.ex e11) k2 k1 hdu2) (ev_var rfl) rv_neN)) fun _ => et_test (ev_op (ev_part (ev_var rfl) (ev_var rfl) (B1.ex e11) (B1.ex e11) k1 k1 (due_self o1)) ev_c rv_notN)) (fun hb => by cases hb) fun _ H10 e12 => ?_
          refine s_when (et_test (ev_op (ev_var rfl) ev_c rv_notN)) (fun hb => by cases hb) fun _ H11 e13 => ?_
          have ee := e11.trans (e12.trans e13)
          exact ⟨⟨_, _, _, _, _, _, _, _, _, _, rfl⟩, eC.trans ee, d', s', c', by unfold Bg at *; omega, ee p _ gb8⟩
        | some dd =>
          rw [hdu] at hv
          have hdu2 : due o2 o1 = some dd := by rw [due_sym]; exact hdu
          obtain ⟨qd, rfl, hqd⟩ := hv
          have hq8 : isL H8 qd dd := e10 qd _ hqd
          refine q_asgL (el_part (ev_var rfl) (ev_var rfl) B1 B2 k1 k2 hdu) fun p9 H9 hp9 e11 h9 => ?_
          refine q_when (et_or (et_test (ev_op (ev_var rfl) (ev_var rfl) (rv_neL h9 (e11 qd _ hq8)))) fun _ => et_or (et_test (ev_opL1 (el_part (ev_var rfl) (ev_var rfl) (B2.ex e11) (B1.ex e11) k2 k1 hdu2) (fun _ _ => ev_var rfl) fun _ _ hx ex => rv_neL hx (ex qd _ (e11 qd _ hq8)))) fun _ => et_test (ev_op (ev_part (ev_var rfl) (ev_var rfl) (B1.ex e11) (B1.ex e11) k1 k1 (due_self o1)) ev_c rv_notN)) (fun hb => by cases hb) fun _ H10 e12 => ?_
          refine s_when (et_test (ev_op (ev_var (v := .ref p9) rfl) ev_c rv_notN)) (fun _ H11 e13 => ?_) fun hb => by cases hb
          refine q_app (l := p9) (e13 p9 _ (e12 p9 _ h9)) (ev_var rfl) ev_c (by rw [List.length_map]; exact due_small k1 k2 hdu) fun H12 e14 => ?_
          have ee := e11.trans (e12.trans (e13.trans e14))
          have em : Ex H8 (upd H12 p9 (.lst (vI dd ++ [.int 0]))) := Ex.mut ee hp9
          refine s_when (et_test (ev_opL1 (el_part (ev_var rfl) (ev_var rfl) (B1.ex em) (B2.ex em) k1 k2 hdu) (fun _ _ => ev_var rfl) fun _ _ hx ex => rv_neL hx (ex qd _ (em qd _ hq8)))) (fun hb => by cases hb) fun _ H14 e15 => ?_
          exact ⟨⟨_, _, _, _, _, _, _, _, _, _, rfl⟩, eC.trans (em.trans e15), d', s', c', by unfold Bg at *; omega, e15 p _ (em p _ gb8)⟩
      · obtain ⟨⟨u1, u3, u4, u5, u6, u7, u8, u9, u10, u11, rfl⟩, e3, _⟩ := pv
        exact ⟨⟨_, _, _, _, _, _, _, _, _, _, _, rfl⟩, e3⟩
    · exact q _
end Pw
set_option Elab.async false
set_option linter.all false
set_option maxRecDepth 100000
set_option maxHeartbeats 0
namespace Pw
open PySem PySem.Spec PyProof.Rows L2
def loose0 : List (PySem.Str) := ["NoText", "BadBook", "CHARACTERS", "RETURN", "FEED", "PERCENT", "FIRST", "is_integer", "code_of", "octets", "REFUSE", "CHUNKED_books", "EQUAL", "ACCEPT", "is_within", "is_one_of", "Book", "DEFAULTS", "OLD", "NEW", "LENGTH", "CHUNKED_partings", "KEPT", "TAB", "MARK"]
def loose1 : List (PySem.Str) := ["LEAST_FIELD", "LEAST", "message", "long_line", "many_fields", "many_digits", "both_names", "unlike_data", "parting", "_law_bag", "_law_take", "_law_pick", "_law_options", "_law_made_book", "_law_known"]
def loose : List (PySem.Str) := loose0 ++ loose1
abbrev R : PySem.W.OpenRow := PySem.W.OpenLaw.row PySem.Challenge.rw_chunkletters_k53_books_parted
def ob (s : PySem.W.SharedT) : AlM := obM (HandSHeadRun.getT s)
theorem ob_eq (s : PySem.W.SharedT) : ob s = hookM.obs s.abs := by
  have e : HandSHeadRun.getT s = s.abs.heap.get? := funext (HandSHeadRun.getT_eq s)
  unfold ob
  rw [e]
  rfl
theorem run0 (w : World) : HandSHeadRun.RunEq R (PySem.W.view R.prog [45]) hookM ob 4000 loose (w.withFollow "special-get-raises" false) := by
  intro os
  kernel_rfl
theorem run1 (w : World) : HandSHeadRun.RunEq R (PySem.W.view R.prog [45]) hookM ob 4000 loose (w.withFollow "special-get-raises" true) := by
  intro os
  kernel_rfl
theorem run (w : World) : HandSHeadRun.RunEq R (PySem.W.view R.prog [45]) hookM ob 4000 loose w := PySem.W.byRow2 "special-get-raises" run0 run1 w
end Pw
set_option Elab.async false
set_option linter.all false
set_option maxRecDepth 100000
set_option maxHeartbeats 400000
open PySem PySem.W PySem.Calls PyProof.Rows
set_option maxHeartbeats 0 in
theorem PySem.Challenge.cw_chunkletters_k53_books_parted_holds : PySem.Challenge.rw_chunkletters_k53_books_parted.Holds := by
  w_on; o_law
  refine HandSHeadRun.head_any (r := OpenLaw.row PySem.Challenge.rw_chunkletters_k53_books_parted) (q := view (OpenLaw.row PySem.Challenge.rw_chunkletters_k53_books_parted).prog [45]) (H := Pw.hookM) (ob := Pw.ob) (M := 4000) (loose := Pw.loose) (d := HandSHeadRun.topDef (OpenLaw.row PySem.Challenge.rw_chunkletters_k53_books_parted).prog 45) (kwd := []) Pw.ob_eq
    (by kernel_rfl) (fun s => by kernel_rfl) Pw.run (by kernel_rfl) (by kernel_rfl) (by kernel_rfl) (by rfl) (by first | assumption | decide +kernel) (by decide +kernel) ⟨rfl, rfl, rfl, rfl, rfl, by decide +kernel⟩ ?hw ?hc
  case hw => w_witness2
  case hc =>
    refine L2.walk_ofE (l := PySem.Challenge.rw_chunkletters_k53_books_parted) (n := 63) (k := 9) (x := "_law_script") (CX := L2.CX0) rfl (by decide) (by kernel_rfl) ⟨rfl, by decide, by decide⟩ ?F ?E
    case E => exact fun _ _ _ _ z => z
    case F =>
      intro w mg fa h Y G hmg0
      obtain ⟨K, KX, c⟩ := Y
      have hmg : mg ("law" : PySem.Str) = some (.ref fa) := by
        have e : (HandSHeadRun.topDef (OpenLaw.row PySem.Challenge.rw_chunkletters_k53_books_parted).prog 45).name = ("law" : PySem.Str) := by kernel_rfl
        rw [← e]
        exact hmg0
      have T : Pw.Tx K mg := ⟨c, h, KX, G⟩
      have e : fa = He.ga K "law" := by
        have z := hmg.symm.trans T.g_law
        cases z
        rfl
      subst e
      exact ⟨K, Pw.fdt K Pw.d_law.at_, Pw.sp_law K, KX, fun s v => L2.FunD.bindsA (ps := ["_law_script"]) T.F_law (fun _ _ _ _ _ _ us hl => match us, hl with | [_], _ => rfl) s [v] rfl, fun H a ns hl hO hS => Pw.law_start T hl hO hS, fun base KB GB => Pw.ok_law T⟩
