import PyProof.Rows.All
import Wide.All
import OpenK.AllK
import Wide.FinOn
import HandS.ForMost
import HandS.ForExc
import HandS.Codes
import HandS.Defaults
import HandS.IsInst
import HandS.StrMore
import HandS.Wide
import HandS.WideMore
import HandS.Deep
import HandS.TupAny
import HandS.Style
import HandS.Flow
import HandS.Conv
import HandS.Walk
import HandS.Small
import HandS.Head0
import HandS.Head1
import HandS.Head2
import HandS.HeadEnd
import HandS.HeadHook1
import HandS.HeadHook2
import HandS.HeadHook3
import HandS.HeadHook4
import PyProof.NeKinds
import PySem.Challenge.RW_bluepaint_k01_tokens_judged
set_option Elab.async false
set_option linter.all false
set_option maxRecDepth 100000
set_option maxHeartbeats 4000000
/-! my layer over HandS: callees by name, decisions, heaps -/
namespace Z
open PySem PySem.Spec PyProof.Rows L2
/-! ### callees -/
/-- a def of the module, called by places, the trailing defaults dvs -/
def Callee (P : Program) (w : World) (K : PySem.W.Frag) (mg : Str → Option Value) (base : Heap) (CX : CXT) (k : Nat) (x : Str) (sp : Sp) (dvs : List V) : Prop :=
  ∃ (fd : FuncData) (ps : List Str) (ds : List Value), FnOk P w K mg base CX k (He.ga K x) fd ps sp ∧ mg x = some (.ref (He.ga K x)) ∧ PySem.W.keepIn K (.ref (He.ga K x)) = true ∧ Binds K fd ps ds ∧ Vals dvs ds
section
variable {X : Cx} {CX : CXT} {k j : Nat} {x m : Str} {sp : Sp} {dvs : List V} {p pos apos : Pos} {e o : Expr} {es : List Expr} {ta : TE} {t : TA} {E : XK}
theorem pc (c : Callee X.prog X.w X.K X.mg X.base CX k x sp dvs) (hr : Room j X.A) (hk : k ≤ j) (hx : Passes CX X E) (hg : Gl X x) (ha : PA X (e :: es) t)
    (hdb : (x == ("__debug__" : Str)) = false := by decide) (he : starEach (e :: es) X.env = (false, eval e X.env) :: starEach es X.env := by rfl) (hpl : (backTo pos (starEach es X.env)).any (·.1) = false := by rfl) :
    PE X (.Call (.Name x p) (e :: es) [] pos) (tCall sp dvs E t) := by
  obtain ⟨fd, ps, ds, F, hm, kp, b, d⟩ := c
  exact pe_call F (hr.mono hk) hg hm kp b d hx ha hdb he hpl
theorem pc0 (c : Callee X.prog X.w X.K X.mg X.base CX k x sp dvs) (hr : Room j X.A) (hk : k ≤ j) (hx : Passes CX X E) (hg : Gl X x)
    (hdb : (x == ("__debug__" : Str)) = false := by decide) :
    PE X (.Call (.Name x p) [] [] pos) (tCall sp dvs E tNil) := by
  obtain ⟨fd, ps, ds, F, hm, kp, b, d⟩ := c
  exact pe_call0 F (hr.mono hk) hg hm kp b d hx hdb
end
/-! ### constants of the module -/
theorem pe_gs {X : Cx} {x z : Str} {pos : Pos} (h : ∃ t, X.mg x = some (.str z t)) (hg : Gl X x := by rfl) (hd : (x == ("__debug__" : Str)) = false := by decide) : PE X (.Name x pos) (tC (.str z)) :=
  C8.pe_gc hg (by obtain ⟨t, e⟩ := h; exact ⟨_, e, ⟨t, rfl⟩⟩) hd
theorem pe_gi {X : Cx} {x : Str} {z : Int} {pos : Pos} (h : ∃ t, X.mg x = some (.int z t)) (hg : Gl X x := by rfl) (hd : (x == ("__debug__" : Str)) = false := by decide) : PE X (.Name x pos) (tC (.int z)) :=
  C8.pe_gc hg (by obtain ⟨t, e⟩ := h; exact ⟨_, e, ⟨t, rfl⟩⟩) hd
theorem pe_gr {X : Cx} {x : Str} {a : Addr} {pos : Pos} (h : X.mg x = some (.ref a)) (hg : Gl X x := by rfl) (hd : (x == ("__debug__" : Str)) = false := by decide) : PE X (.Name x pos) (tC (.ref a)) :=
  C8.pe_gc hg ⟨_, h, rfl⟩ hd
/-! ### decisions -/
theorem iteD {c A B : Prop} [Decidable c] (h1 : c → A) (h2 : ¬ c → B) : if decide c = true then A else B := by
  by_cases h : c
  · rw [decide_eq_true h]; exact iteT (h1 h)
  · rw [decide_eq_false h]; exact iteF (h2 h)
theorem iteDN {c A B : Prop} [Decidable c] (h1 : ¬ c → A) (h2 : c → B) : if (!decide c) = true then A else B := by
  by_cases h : c
  · rw [decide_eq_true h]; exact iteF (h2 h)
  · rw [decide_eq_false h]; exact iteT (h1 h)
theorem iteB {b : Bool} {A B : Prop} (h1 : b = true → A) (h2 : b = false → B) : if b = true then A else B := by
  cases b with
  | true => exact iteT (h1 rfl)
  | false => exact iteF (h2 rfl)
/-! ### heaps -/
/-- all but what stands at S is as it was -/
def Keep (S : List Addr) (H H' : Hp) : Prop := ∀ b o, H b = some o → b ∉ S → H' b = some o
theorem Keep.refl {S : List Addr} {H : Hp} : Keep S H H := fun _ _ h _ => h
theorem Keep.trans {S : List Addr} {H H1 H2 : Hp} (a : Keep S H H1) (b : Keep S H1 H2) : Keep S H H2 := fun c o h n => b c o (a c o h n) n
theorem Keep.one {a b : Addr} {H H' : Hp} {o : HO} (k : Keep [a] H H') (h : H b = some o) (n : b ≠ a) : H' b = some o := k b o h (by simpa using n)
theorem Keep.upd {a : Addr} {H H1 : Hp} {o : HO} (k : Keep [a] H H1) : Keep [a] H (L2.upd H1 a o) := fun b u h n => by
  have n' : b ≠ a := by simpa using n
  rw [upd_ne n']; exact k b u h n
theorem Keep.new {S : List Addr} {H H1 : Hp} {p : Addr} {o : HO} (k : Keep S H H1) (hp : H1 p = none) : Keep S H (L2.upd H1 p o) := fun b u h n => by
  have e := k b u h n
  rw [upd_ne (ne_of_none e hp)]; exact e
theorem Keep.of {S : List Addr} {H H' : Hp} (s : Same H H') : Keep S H H' := fun b o h _ => s b o h
theorem Keep.same {H H' : Hp} (k : Keep [] H H') : Same H H' := fun b o h => k b o h (by simp)
theorem _root_.L2.Same.new {H H1 : Hp} {p : Addr} {o : HO} (k : Same H H1) (hp : H1 p = none) : Same H (L2.upd H1 p o) := fun b u h => by
  have e := k b u h
  rw [upd_ne (ne_of_none e hp)]; exact e
theorem upd_new {H : Hp} {p a : Addr} {o u : HO} (hp : H p = none) (h : H a = some u) : L2.upd H p o a = some u := by
  rw [upd_ne (ne_of_none h hp)]; exact h
theorem upd_old {H : Hp} {p a : Addr} {o u : HO} (n : a ≠ p) (h : H a = some u) : L2.upd H p o a = some u := by
  rw [upd_ne n]; exact h
end Z
namespace Z
open PySem PySem.Spec PyProof.Rows L2
/-! ### texts as codes -/
abbrev cl (z : Str) : List Nat := z.cps.toList
theorem cl_len (z : Str) : (cl z).length = z.length := Array.length_toList
end Z
namespace Z
open PySem PySem.Spec PyProof.Rows L2
/-! ### texts: s * n, s[::-1] -/
/-- n times the codes -/
def rep (n : Int) (l : List Nat) : List Nat := (List.replicate n.toNat l).flatten
theorem foldl_arr (l : List Nat) : ∀ (n : Nat) (acc : Array Nat), ((List.replicate n l.toArray).foldl (· ++ ·) acc).toList = acc.toList ++ (List.replicate n l).flatten
  | 0, acc => by simp
  | n + 1, acc => by
    rw [List.replicate_succ, List.foldl_cons, foldl_arr l n, List.replicate_succ, List.flatten_cons]
    simp
theorem mul_cl (x : Str) (n : Int) : cl (Txt.mul x n) = rep n (cl x) := by
  unfold Txt.mul rep
  by_cases h1 : n < 1
  · rw [if_pos h1, show n.toNat = 0 by omega]; rfl
  · rw [if_neg h1]
    by_cases h2 : (n == 1 || x.length == 0) = true
    · rw [if_pos h2]
      rcases Bool.or_eq_true_iff.mp h2 with h3 | h3
      · have e : n = 1 := by simpa using h3
        subst e; simp
      · have e : cl x = [] := List.eq_nil_of_length_eq_zero (by rw [cl_len]; simpa using h3)
        rw [e]; simp
    · rw [if_neg h2]
      have q := foldl_arr (cl x) n.toNat #[]
      simp only [cl, Array.toArray_toList] at q ⊢
      rw [q]; rfl
theorem op_mul_str {X : Cx} : OpR X (binaryOp .Mult) (fun x y H Q => ∃ (z : Str) (n : Int), x = .str z ∧ y = .int n ∧ n ≤ 100000 ∧ -100000 ≤ n ∧ z.length ≤ 100000 ∧ z.length * n.toNat ≤ 16777216 ∧ ∀ y : Str, cl y = rep n (cl z) → Q (.str y) H) := by
  intro pins s σ H x y v u Q I rx ry h
  obtain ⟨z, n, rfl, rfl, h1, h2, h3, h4, q⟩ := h
  obtain ⟨t, rfl⟩ := rx
  obtain ⟨t', rfl⟩ := ry
  refine SB.mul ⟨?_, fun a _ => ?_, fun a _ => ?_⟩ fun t' k => ⟨.str (Txt.mul z n), H, I.tok _, ⟨_, rfl⟩, q _ (mul_cl z n)⟩
  · rw [decide_eq_false (by omega), decide_eq_false (by omega)]; rfl
  · have h5 : (100000 : Int) ≤ (2 ^ 63 - 1) / n := by
      refine Int.le_ediv_of_mul_le (by omega) ?_
      omega
    omega
  · unfold PySem.Builtin.Str.tooLong
    first
      | (refine decide_eq_false ?_; rw [sizeLine_eq]; omega)
      | (simp only [sizeLine_eq]; simp; omega)
def tRevS (te : TE) : TE := fun σ H Q => te σ H fun x H1 => ∃ z, x = .str z ∧ z.length ≤ sizeLine ∧ ∀ y : Str, cl y = (cl z).reverse → Q (.str y) H1
theorem rev_codes (z : Str) (c : Array Nat) (hc : c = z.cps) : (((List.range z.length).map fun k => z.length - 1 - k).filterMap (c[·]?)) = (cl z).reverse := by
  subst hc
  have hl := cl_len z
  rw [PyProof.Rows.filterMap_get _ _ fun i hi => by
    obtain ⟨k, hk, rfl⟩ := List.mem_map.mp hi
    have hk' := List.mem_range.mp hk
    show z.length - 1 - k < z.length
    omega]
  rw [List.map_map]
  refine List.ext_getElem? fun i => ?_
  rw [List.getElem?_map]
  by_cases h : i < z.length
  · rw [List.getElem?_range h, List.getElem?_reverse (by omega), hl]
    show some (z.cps.getD (z.length - 1 - i) 0) = (cl z)[z.length - 1 - i]?
    have h2 : z.length - 1 - i < (cl z).length := by omega
    rw [List.getElem?_eq_getElem h2, Array.getD_eq_getD_getElem?, ← Array.getElem?_toList, List.getElem?_eq_getElem h2]
    rfl
  · have e1 : (List.range z.length)[i]? = none := List.getElem?_eq_none (by rw [List.length_range]; omega)
    have e2 : (cl z).reverse[i]? = none := List.getElem?_eq_none (by rw [List.length_reverse]; omega)
    rw [e1, e2]; rfl
theorem pe_revS {X : Cx} {e : Expr} {te : TE} {k : Nat} {p1 p2 p3 pos : Pos} (he : PE X e te) : PE X (.Subscript e (.Slice none none (some (.UnaryOp .USub (.Constant (.int 1) k p1) p2)) p3) pos) (tRevS te) := by
  refine ⟨fun pins s σ H Q I h => ?_⟩
  refine Subscript_ (thn (he.run pins s σ H _ I h) fun v s1 ⟨x, H1, I1, r1, q1⟩ => ?_)
  obtain ⟨z, ex, hz, q⟩ := q1
  subst ex
  obtain ⟨t, rfl⟩ := r1
  have hst : PO X (some (.UnaryOp .USub (.Constant (.int 1) k p1) p2)) (tPart (tUn (rU fun i => .int (-i)) (tC (.int 1)))) := po_some (pe_un un_neg pe_int)
  refine wpAny_Slice (thn (po_none.run pins s1 σ H1 (fun o H2 => o = none ∧ H2 = H1) I1 ⟨rfl, rfl⟩) fun vl s2 ⟨l, H2, I2, pl, el, e2⟩ => ?_)
  subst el e2
  refine thn (po_none.run pins s2 σ H2 (fun o H3 => o = none ∧ H3 = H2) I2 ⟨rfl, rfl⟩) fun vu s3 ⟨u, H3, I3, pu, eu, e3⟩ => ?_
  subst eu e3
  refine thn (hst.run pins s3 σ H3 (fun o H4 => o = some (-1) ∧ H4 = H3) I3 ⟨1, rfl, -1, rfl, rfl, rfl⟩) fun vs s4 ⟨o, H4, I4, ps, eo, e4⟩ => ?_
  subst eo e4
  have I5 : Inv X pins σ H4 { s4 with heap := s4.heap.push { cls := .type "slice", data := .fields #[vl, vu, vs] } } := I4.kept (t' := s4.toks) fun b ob q => Heap.get?_push_of_some _ q
  show wpAny (model X.prog X.w) X.A (subscriptTail e (.Slice none none (some (.UnaryOp .USub (.Constant (.int 1) k p1) p2)) p3) (.str z t) (.ref s4.heap.objs.size)) (EP X pins σ Q) X.xe { s4 with heap := s4.heap.push { cls := .type "slice", data := .fields #[vl, vu, vs] } }
  cases pl
  cases pu
  cases ps with
  | int i tk =>
  refine tail_any (ops := [.str z t, .ref s4.heap.objs.size]) (typeIs_str _ z t) (F.slot_str_getitem.lookup) ?_ (by with_unfolding_all rfl)
  refine wpAny_getItem_str_slice (l := none) (u := none) (st := some (-1, tk)) ⟨_, Heap.get?_push_size _ rfl, rfl, rfl⟩ rfl ?_
  have e : (slicePicked z none none (some (-1, tk))) = (List.range z.length).map fun k => z.length - 1 - k := PyProof.Rows.picked_rev z.length
  have hf : sliceMade z t none none (some (-1, tk)) = Made.str ⟨((slicePicked z none none (some (-1, tk))).filterMap (z.cps[·]?)).toArray⟩ := by
    unfold sliceMade
    rw [if_neg]
    show ¬ (((-1 : Int) == 1 && _) = true)
    simp
  rw [hf, e, rev_codes z _ rfl]
  have hc : cl ⟨(cl z).reverse.toArray⟩ = (cl z).reverse := by simp
  refine ⟨?_, .str _, H4, I5.tok _, ⟨_, rfl⟩, q _ hc⟩
  show ((cl z).reverse.toArray).size ≤ sizeLine
  rw [List.size_toArray, List.length_reverse, cl_len]
  exact hz
/-! ### small things -/
theorem isi_other {K : PySem.W.Frag} {t : String} (T : String) (h : kitB t T = some false) : PySem.W.kitOne K (.type t) (.type T) = some false := kit_ty h
theorem str_eq {a b : Str} : a = b ↔ cl a = cl b := by
  obtain ⟨a⟩ := a; obtain ⟨b⟩ := b
  constructor
  · intro h; rw [h]
  · intro h
    have : a = b := Array.ext' h
    rw [this]
theorem cl_append (a b : Str) : cl (a ++ b) = cl a ++ cl b := Array.toList_append
theorem len_append (a b : Str) : (a ++ b).length = a.length + b.length := by rw [← cl_len, cl_append, List.length_append, cl_len, cl_len]
end Z
namespace Z
open PySem PySem.Spec PyProof.Rows L2
theorem at_of2 {α : Type} {xs : List α} {r : Int} {v : α} (h0 : 0 ≤ r) (h : xs[r.toNat]? = some v) : atI xs r = some v := by
  have q := atI_nat h
  rwa [Int.toNat_of_nonneg h0] at q
end Z
namespace Z
open PySem PySem.Spec PyProof.Rows L2
theorem at_of3 {H H' : Hp} {p : Addr} {o : HO} (h : L2.upd H p o = H') : H' p = some o := by rw [← h]; exact upd_same
theorem same_of3 {H H' : Hp} {p : Addr} {o : HO} (h : L2.upd H p o = H') (hp : H p = none) : Same H H' := by rw [← h]; exact (Same.refl H).new hp
end Z
namespace Z
open PySem PySem.Spec PyProof.Rows L2
theorem take_more {α : Type} : ∀ {l : List α} {i : Nat} {x : α}, l[i]? = some x → l.take (i + 1) = l.take i ++ [x]
  | [], i, x, h => by simp at h
  | a :: l, 0, x, h => by
    have e : a = x := Option.some.inj h
    subst e
    rfl
  | a :: l, i + 1, x, h => by
    have ih := take_more (l := l) (i := i) (x := x) h
    show a :: l.take (i + 1) = a :: l.take i ++ [x]
    rw [ih]
    rfl
/-- what stood at the start stands, where only what came later is written -/
theorem _root_.L2.Same.keep {H0 H H' : Hp} {b : Addr} (s : Same H0 H) (k : Keep [b] H H') (hb : H0 b = none) : Same H0 H' := fun c o h => k.one (s c o h) (ne_of_none h hb)
theorem frees {H H' : Hp} {p : Addr} (s : Same H H') (h : H' p = none) : H p = none := Same.free s h
end Z

set_option Elab.async false
set_option linter.all false
set_option maxRecDepth 100000
set_option maxHeartbeats 4000000
/-! tokens: plain functions over lists of codes -/
namespace Z
open PySem PySem.Spec PyProof.Rows L2
/-! ### signs -/
def LL : List Nat := ("abcdefghijklmnopqrstuvwxyzABCDEFGHIJKLMNOPQRSTUVWXYZ" : Str).cps.toList
def FF : List Nat := ("0123456789" : Str).cps.toList
def isL (c : Nat) : Bool := decide (c ∈ LL)
def isF (c : Nat) : Bool := decide (c ∈ FF)
def isLF (c : Nat) : Bool := isL c || isF c
theorem LF_mem (c : Nat) : isLF c = decide (c ∈ ("abcdefghijklmnopqrstuvwxyzABCDEFGHIJKLMNOPQRSTUVWXYZ0123456789" : Str).cps.toList) := by
  have e : ("abcdefghijklmnopqrstuvwxyzABCDEFGHIJKLMNOPQRSTUVWXYZ0123456789" : Str).cps.toList = LL ++ FF := by decide +kernel
  rw [e]
  unfold isLF isL isF
  simp only [List.mem_append, Bool.decide_or]
/-- how many letters and figures stand ahead -/
def wE (l : List Nat) : Nat := (l.takeWhile isLF).length
theorem wE_le (l : List Nat) : wE l ≤ l.length := by
  unfold wE
  exact List.IsPrefix.length_le (List.takeWhile_prefix _)
theorem wE_pos {c : Nat} {r : List Nat} (h : isLF c = true) : wE (c :: r) = wE r + 1 := by
  unfold wE
  rw [List.takeWhile_cons_of_pos h, List.length_cons]
theorem wE_neg {c : Nat} {r : List Nat} (h : ¬ isLF c = true) : wE (c :: r) = 0 := by
  unfold wE
  rw [List.takeWhile_cons_of_neg h]
  rfl
theorem wE_all {l : List Nat} : wE l = l.length ↔ l.all isLF = true := by
  induction l with
  | nil => simp [wE]
  | cons c r ih =>
    by_cases h : isLF c = true
    · rw [wE_pos h, List.length_cons, List.all_cons, h, Bool.true_and, ← ih]; omega
    · rw [wE_neg h, List.length_cons, List.all_cons, Bool.not_eq_true _ |>.mp h, Bool.false_and]
      constructor
      · intro e; omega
      · intro e; cases e
def prs : List (List Nat) := [[61, 61], [33, 61], [60, 61], [62, 61], [38, 38], [124, 124], [45, 62]]
/-- the place of the first quote -/
def qAt : List Nat → Option Nat
  | [] => none
  | c :: r => if c = 34 then some 0 else (qAt r).map (· + 1)
theorem qAt_none : ∀ {l : List Nat}, (∀ v, v < l.length → l.getD v 0 ≠ 34) → qAt l = none
  | [], _ => rfl
  | c :: r, h => by
    have h0 : c ≠ 34 := h 0 (by simp)
    unfold qAt
    rw [if_neg h0, qAt_none (l := r) fun v hv => by
      have := h (v + 1) (by simpa using hv)
      simpa using this]
    rfl
theorem qAt_some : ∀ {l : List Nat} {k : Nat}, k < l.length → l.getD k 0 = 34 → (∀ v, v < k → l.getD v 0 ≠ 34) → qAt l = some k
  | [], k, h, _, _ => by simp at h
  | c :: r, 0, _, e, _ => by
    have e' : c = 34 := by simpa using e
    unfold qAt
    rw [if_pos e']
  | c :: r, k + 1, h, e, n => by
    have h0 : c ≠ 34 := by simpa using n 0 (by omega)
    unfold qAt
    rw [if_neg h0, qAt_some (l := r) (k := k) (by simpa using h) (by simpa using e) fun v hv => by simpa using n (v + 1) (by omega)]
    rfl
theorem qAt_lt : ∀ {l : List Nat} {k : Nat}, qAt l = some k → k < l.length
  | [], k, h => by cases h
  | c :: r, k, h => by
    unfold qAt at h
    by_cases e : c = 34
    · rw [if_pos e] at h; cases h; simp
    · rw [if_neg e] at h
      cases q : qAt r with
      | none => rw [q] at h; cases h
      | some j =>
        rw [q] at h
        have : j + 1 = k := by simpa using h
        have := qAt_lt q
        simp only [List.length_cons]; omega
/-- how long the token is that begins the list -/
def tokLen : List Nat → Option Nat
  | [] => some 0
  | c :: r => if c = 34 then (qAt r).map (· + 2) else if isLF c = true then some (wE r + 1) else if (c :: r).take 2 ∈ prs then some 2 else some 1
theorem tokLen_cons (c : Nat) (r : List Nat) : tokLen (c :: r) = if c = 34 then (qAt r).map (· + 2) else if isLF c = true then some (wE r + 1) else if (c :: r).take 2 ∈ prs then some 2 else some 1 := rfl
def isTok (l : List Nat) : Bool := match l with
  | [] => false
  | c :: r => decide (c ≠ 32) && (decide (10 ∉ c :: r) && decide (tokLen (c :: r) = some (r.length + 1)))
/-- what the law's own look tells -/
def due (l : List Nat) : Bool := match l with
  | [] => false
  | c :: r => decide (10 ∉ c :: r) && (if isLF c = true then (c :: r).all isLF else if c = 34 then decide (r.length + 1 > 1) && (decide ((c :: r).count 34 = 2) && decide ((c :: r).getLastD 0 = 34)) else if r.length = 0 then decide (c ≠ 32) else decide (c :: r ∈ prs))
theorem prs_len {l : List Nat} (h : l ∈ prs) : l.length = 2 := by
  revert l; decide
theorem prs_blank {c : Nat} {r : List Nat} (h : c :: r ∈ prs) : c ≠ 32 := by
  intro e; subst e
  simp [prs] at h
theorem qAt_end : ∀ r : List Nat, qAt r = some (r.length - 1) ∧ r ≠ [] ↔ r.count 34 = 1 ∧ r.getLastD 0 = 34
  | [] => by simp
  | [c] => by
    by_cases e : c = 34
    · subst e; simp [qAt]
    · simp [qAt, e]
  | c :: d :: r => by
    have ih := qAt_end (d :: r)
    by_cases e : c = 34
    · subst e
      have h1 : qAt (34 :: d :: r) = some 0 := by unfold qAt; rw [if_pos rfl]
      rw [h1]
      simp only [List.length_cons, Option.some.injEq, ne_eq, reduceCtorEq, not_false_eq_true, and_true, List.count_cons_self]
      constructor
      · intro h; omega
      · rintro ⟨h2, h3⟩
        have h4 : List.count 34 (d :: r) = 0 := by omega
        have h5 : 34 ∉ d :: r := List.count_eq_zero.mp h4
        have h6 : (d :: r).getLastD 0 ∈ d :: r := by
          rw [List.getLastD_eq_getLast?, List.getLast?_eq_some_getLast (by simp)]
          exact List.getLast_mem _
        have h7 : (34 :: d :: r).getLastD 0 = (d :: r).getLastD 0 := by simp [List.getLastD]
        rw [← h7, h3] at h6
        exact absurd h6 h5
    · have h1 : qAt (c :: d :: r) = (qAt (d :: r)).map (· + 1) := by conv => lhs; unfold qAt; rw [if_neg e]
      have h7 : (c :: d :: r).getLastD 0 = (d :: r).getLastD 0 := by simp [List.getLastD]
      rw [h1, h7, List.count_cons_of_ne (Ne.symm (Ne.symm e)), ← ih]
      constructor
      · rintro ⟨h2, _⟩
        refine ⟨?_, by simp⟩
        cases q : qAt (d :: r) with
        | none => rw [q] at h2; cases h2
        | some k =>
          rw [q] at h2
          simp only [Option.map_some, Option.some.injEq, List.length_cons] at h2 ⊢
          omega
      · rintro ⟨h2, _⟩
        rw [h2]
        refine ⟨?_, by simp⟩
        simp only [Option.map_some, Option.some.injEq, List.length_cons]
        omega
theorem due_tok (l : List Nat) : isTok l = due l := by
  cases l with
  | nil => rfl
  | cons c r =>
    show (decide (c ≠ 32) && (decide (10 ∉ c :: r) && decide (tokLen (c :: r) = some (r.length + 1)))) = (decide (10 ∉ c :: r) && _)
    by_cases h10 : 10 ∉ c :: r
    · rw [decide_eq_true h10, Bool.true_and, Bool.true_and]
      by_cases hl : isLF c = true
      · have h32 : c ≠ 32 := by rintro rfl; revert hl; decide +kernel
        have h34 : c ≠ 34 := by rintro rfl; revert hl; decide +kernel
        rw [if_pos hl, decide_eq_true h32, Bool.true_and]
        have e : tokLen (c :: r) = some (wE r + 1) := by rw [tokLen_cons, if_neg h34, if_pos hl]
        rw [e, List.all_cons, hl, Bool.true_and]
        have q := wE_all (l := r)
        cases a : r.all isLF with
        | true => rw [q.mpr a]; simp
        | false =>
          refine decide_eq_false fun z => ?_
          have z2 : wE r = r.length := by simpa using z
          rw [q.mp z2] at a; cases a
      · rw [if_neg hl]
        by_cases h34 : c = 34
        · subst h34
          rw [if_pos rfl, decide_eq_true (by decide), Bool.true_and]
          have e : tokLen (34 :: r) = (qAt r).map (· + 2) := by rw [tokLen_cons, if_pos rfl]
          rw [e]
          have q := qAt_end r
          cases r with
          | nil => rfl
          | cons d s =>
            have h7 : (34 :: d :: s).getLastD 0 = (d :: s).getLastD 0 := by simp [List.getLastD]
            rw [h7, List.count_cons_self]
            have hp : decide ((d :: s).length + 1 > 1) = true := decide_eq_true (by simp)
            rw [hp, Bool.true_and, ← Bool.decide_and, decide_eq_decide]
            have q2 : (qAt (d :: s)).map (· + 2) = some ((d :: s).length + 1) ↔ qAt (d :: s) = some ((d :: s).length - 1) ∧ d :: s ≠ [] := by
              cases z : qAt (d :: s) with
              | none => simp
              | some k => simp only [Option.map_some, Option.some.injEq, List.length_cons, ne_eq, reduceCtorEq, not_false_eq_true, and_true]; omega
            rw [q2, q]
            constructor
            · rintro ⟨a, b⟩; exact ⟨by omega, b⟩
            · rintro ⟨a, b⟩; exact ⟨by omega, b⟩
        · rw [if_neg h34]
          have e : tokLen (c :: r) = if (c :: r).take 2 ∈ prs then some 2 else some 1 := by rw [tokLen_cons, if_neg h34, if_neg hl]
          rw [e]
          by_cases hp : (c :: r).take 2 ∈ prs
          · rw [if_pos hp]
            have hln := prs_len hp
            have hb : c ≠ 32 := by
              rw [List.take_succ_cons] at hp
              exact prs_blank hp
            rw [decide_eq_true hb, Bool.true_and]
            cases r with
            | nil => simp at hln
            | cons d s =>
              rw [if_neg (by simp)]
              cases s with
              | nil =>
                have hp' : [c, d] ∈ prs := hp
                rw [decide_eq_true hp']; rfl
              | cons x y =>
                have n1 : ¬ (c :: d :: x :: y) ∈ prs := fun z => by
                  have := prs_len z
                  simp at this
                rw [decide_eq_false n1]
                refine decide_eq_false fun z => ?_
                simp at z
          · rw [if_neg hp]
            cases r with
            | nil => simp
            | cons d s =>
              rw [if_neg (by simp)]
              have n1 : ¬ (c :: d :: s) ∈ prs := fun z => by
                have h2 := prs_len z
                have h3 : s = [] := by simpa using h2
                subst h3
                exact hp z
              rw [decide_eq_false n1]
              simp
    · rw [decide_eq_false h10, Bool.false_and, Bool.false_and, Bool.and_false]
end Z

set_option Elab.async false
set_option linter.all false
set_option maxRecDepth 100000
set_option maxHeartbeats 4000000
/-! == and != of data: flat values, lists, tuples, at any depth, any answer -/
namespace Z
open PySem PySem.Spec PyProof.Rows L2
def SeqE (E : V → V → Bool → Prop) (xs ys : List V) (b : Bool) : Prop :=
  ∃ e : Nat → Bool, (∀ j x y, xs[j]? = some x → ys[j]? = some y → E x y (e j)) ∧ b = ((List.range (min xs.length ys.length)).all e && decide (xs.length = ys.length))
def EqT (K : PySem.W.Frag) (H : Hp) (E : V → V → Bool → Prop) (x y : V) (b : Bool) : Prop :=
  (∃ a c xs ys, x = .ref a ∧ y = .ref c ∧ SqL K H a xs ∧ SqL K H c ys ∧ ((xs.length ≠ ys.length ∧ b = false) ∨ SeqE E xs ys b)) ∨
  (∃ a c xs ys, x = .ref a ∧ y = .ref c ∧ SqT K H a xs ∧ SqT K H c ys ∧ SeqE E xs ys b) ∨
  (∃ a c xs ys, x = .ref a ∧ y = .ref c ∧ SqL K H a xs ∧ SqT K H c ys ∧ b = false) ∨
  (∃ a c xs ys, x = .ref a ∧ y = .ref c ∧ SqT K H a xs ∧ SqL K H c ys ∧ b = false) ∨
  (∃ a xs, x = .ref a ∧ (SqL K H a xs ∨ SqT K H a xs) ∧ flatV y = true ∧ b = false) ∨
  (∃ c ys, y = .ref c ∧ (SqL K H c ys ∨ SqT K H c ys) ∧ flatV x = true ∧ b = false)
def EqW (K : PySem.W.Frag) (H : Hp) : Nat → V → V → Bool → Prop
  | 0 => fun x y b => (flatV x = true ∧ flatV y = true ∧ b = eqV x y) ∨ (∃ a, x = .ref a ∧ y = .ref a ∧ b = true)
  | n + 1 => fun x y b => (flatV x = true ∧ flatV y = true ∧ b = eqV x y) ∨ (∃ a, x = .ref a ∧ y = .ref a ∧ b = true) ∨ EqT K H (EqW K H n) x y b
theorem EqW.flat {K : PySem.W.Frag} {H : Hp} {n : Nat} {x y : V} (hx : flatV x = true) (hy : flatV y = true) : EqW K H n x y (eqV x y) := by
  cases n with
  | zero => exact .inl ⟨hx, hy, rfl⟩
  | succ n => exact .inl ⟨hx, hy, rfl⟩
theorem EqW.same {K : PySem.W.Frag} {H : Hp} {n : Nat} {a : Addr} : EqW K H n (.ref a) (.ref a) true := by
  cases n with
  | zero => exact .inr ⟨a, rfl, rfl, rfl⟩
  | succ n => exact .inr (.inl ⟨a, rfl, rfl, rfl⟩)
theorem eqV_self {x : V} (h : flatV x = true) : eqV x x = true := by
  cases x <;> first | rfl | (simp [eqV]; done) | (simp [flatV] at h)
section
variable {X : Cx} {pins : List (Addr × Obj)} {σ : L2.St} {H : Hp} {s : Shared}
theorem rc_flat {A : Around} {x y : V} {v u : Value} (hx : flatV x = true) (hy : flatV y = true) (rx : RelV x v) (ry : RelV y u) : SeqAt.RcAt A s v u (eqV x y) ∧ SeqAt.RcNeAt A s v u (!eqV x y) := by
  cases x with
  | non =>
    cases rx
    cases y with
    | non => cases ry; exact ⟨fun _ _ _ _ h => PySem.EqNone.eq_none_none h, .none_none⟩
    | bl b => cases ry; exact ⟨fun _ _ _ _ h => PySem.EqNone.eq_none_bool h, .none_bool b⟩
    | int j => obtain ⟨t, rfl⟩ := ry; exact ⟨fun _ _ _ _ h => PySem.EqNone.eq_none_int h, .none_int j t⟩
    | str j => obtain ⟨t, rfl⟩ := ry; exact ⟨fun _ _ _ _ h => PySem.EqNone.eq_none_str h, .none_str j t⟩
    | _ => cases hy
  | bl a =>
    cases rx
    cases y with
    | non => cases ry; exact ⟨fun _ _ _ _ h => PySem.EqNone.eq_bool_none h, .bool_none a⟩
    | bl b => cases ry; exact ⟨fun _ _ _ _ h => eq_bool h, .bool_bool a b⟩
    | int j => obtain ⟨t, rfl⟩ := ry; exact ⟨SeqAt.RcAt.bool_int a j t, .bool_int a j t⟩
    | str j => obtain ⟨t, rfl⟩ := ry; exact ⟨fun _ _ _ _ h => PySem.EqMixed.eq_bool_str h, .bool_str a j t⟩
    | _ => cases hy
  | int i =>
    obtain ⟨k, rfl⟩ := rx
    cases y with
    | non => cases ry; exact ⟨fun _ _ _ _ h => PySem.EqNone.eq_int_none h, .int_none i k⟩
    | bl b => cases ry; exact ⟨SeqAt.RcAt.int_bool i k b, .int_bool i k b⟩
    | int j => obtain ⟨t, rfl⟩ := ry; exact ⟨fun _ _ _ _ h => eq_int h, .int_int i k j t⟩
    | str j => obtain ⟨t, rfl⟩ := ry; exact ⟨fun _ _ _ _ h => PySem.EqMixed.eq_int_str h, .int_str i k j t⟩
    | _ => cases hy
  | str i =>
    obtain ⟨k, rfl⟩ := rx
    cases y with
    | non => cases ry; exact ⟨fun _ _ _ _ h => PySem.EqNone.eq_str_none h, .str_none i k⟩
    | bl b => cases ry; exact ⟨fun _ _ _ _ h => PySem.EqMixed.eq_str_bool h, .str_bool i k b⟩
    | int j => obtain ⟨t, rfl⟩ := ry; exact ⟨fun _ _ _ _ h => PySem.EqMixed.eq_str_int h, .str_int i k j t⟩
    | str j => obtain ⟨t, rfl⟩ := ry; exact ⟨fun _ _ _ _ h => eq_str h, .str_str i k j t⟩
    | _ => cases hy
  | _ => cases hx
theorem items_at {A : Around} {E : V → V → Bool → Prop} (ih : ∀ x y b v u, E x y b → RelV x v → RelV y u → SeqAt.EqAt A s v u b) {xs ys : List V} {us ws : List Value} (r1 : Vals xs us) (r2 : Vals ys ws) {e : Nat → Bool}
    (h : ∀ j x y, xs[j]? = some x → ys[j]? = some y → E x y (e j)) : ∀ j (h1 : j < us.toArray.size) (h2 : j < ws.toArray.size), SeqAt.EqAt A s us.toArray[j] ws.toArray[j] (e j) := fun j h1 h2 => by
  have l1 := r1.length
  have l2 := r2.length
  have k1 : j < xs.length := by simpa [l1] using h1
  have k2 : j < ys.length := by simpa [l2] using h2
  have g1 : xs[j]? = some xs[j] := List.getElem?_eq_getElem k1
  have g2 : ys[j]? = some ys[j] := List.getElem?_eq_getElem k2
  obtain ⟨u1, a1, b1⟩ := Vals.get r1 g1
  obtain ⟨u2, a2, b2⟩ := Vals.get r2 g2
  have h1' : j < us.length := by simpa using h1
  have h2' : j < ws.length := by simpa using h2
  have c1 : us.toArray[j] = u1 := by rw [List.getElem?_eq_getElem h1'] at a1; simpa using a1
  have c2 : ws.toArray[j] = u2 := by rw [List.getElem?_eq_getElem h2'] at a2; simpa using a2
  rw [c1, c2]
  exact ih _ _ _ _ _ (h j _ _ g1 g2) b1 b2
theorem isT {h : Heap} {a : Addr} {its : Array Value} (t : IsTup h a its) : h.IsTuple a its := t
theorem eqT_rc (I : Inv X pins σ H s) {A : Around} {E : V → V → Bool → Prop} (hu : A.units < cLine) (ih : ∀ x y b v u, E x y b → RelV x v → RelV y u → SeqAt.EqAt A.in1 s v u b) {x y : V} {b : Bool} {v u : Value}
    (h : EqT X.K H E x y b) (rx : RelV x v) (ry : RelV y u) : SeqAt.RcAt A s v u b ∧ SeqAt.RcNeAt A s v u (!b) := by
  rcases h with ⟨a, c, xs, ys, rfl, rfl, ha, hc, h⟩ | ⟨a, c, xs, ys, rfl, rfl, ha, hc, e, he, rfl⟩ | ⟨a, c, xs, ys, rfl, rfl, ha, hc, rfl⟩ | ⟨a, c, xs, ys, rfl, rfl, ha, hc, rfl⟩ | ⟨a, xs, rfl, ha, fy, rfl⟩ | ⟨c, ys, rfl, hc, fx, rfl⟩
  · cases (show v = Value.ref a from rx)
    cases (show u = Value.ref c from ry)
    obtain ⟨us, r1, p1, _⟩ := I.list ha
    obtain ⟨ws, r2, p2, _⟩ := I.list hc
    have l1 := r1.length
    have l2 := r2.length
    rcases h with ⟨hl, rfl⟩ | ⟨e, he, rfl⟩
    · have hsz : (us.toArray.size != ws.toArray.size) = true := by
        rw [bne_iff_ne, List.size_toArray, List.size_toArray, ← l1, ← l2]; exact hl
      exact ⟨.lists_lengths p1.isList p2.isList hsz hu, .lists_lengths p1.isList p2.isList hsz hu⟩
    · by_cases hl : xs.length = ys.length
      · have hsz : us.toArray.size = ws.toArray.size := by rw [List.size_toArray, List.size_toArray, ← l1, ← l2]; exact hl
        have q := items_at ih r1 r2 he
        have e1 : (List.range us.toArray.size).all e = ((List.range (min xs.length ys.length)).all e && decide (xs.length = ys.length)) := by
          rw [decide_eq_true hl, Bool.and_true, List.size_toArray, ← l1, Nat.min_eq_left (Nat.le_of_eq hl)]
        rw [← e1]
        exact ⟨.lists p1.isList p2.isList hsz hu q, .lists p1.isList p2.isList hsz hu q⟩
      · have hsz : (us.toArray.size != ws.toArray.size) = true := by
          rw [bne_iff_ne, List.size_toArray, List.size_toArray, ← l1, ← l2]; exact hl
        rw [decide_eq_false hl, Bool.and_false]
        exact ⟨.lists_lengths p1.isList p2.isList hsz hu, .lists_lengths p1.isList p2.isList hsz hu⟩
  · cases (show v = Value.ref a from rx)
    cases (show u = Value.ref c from ry)
    obtain ⟨us, r1, p1, _⟩ := I.tuple ha
    obtain ⟨ws, r2, p2, _⟩ := I.tuple hc
    have l1 := r1.length
    have l2 := r2.length
    have q := items_at ih r1 r2 he
    have e1 : ((List.range (min us.toArray.size ws.toArray.size)).all e && us.toArray.size == ws.toArray.size) = ((List.range (min xs.length ys.length)).all e && decide (xs.length = ys.length)) := by
      rw [List.size_toArray, List.size_toArray, ← l1, ← l2]
      rfl
    rw [← e1]
    exact ⟨.tuples (isT p1) (isT p2) hu q, .tuples (isT p1) (isT p2) hu q⟩
  · cases (show v = Value.ref a from rx)
    cases (show u = Value.ref c from ry)
    obtain ⟨us, r1, p1, _⟩ := I.list ha
    obtain ⟨ws, r2, p2, _⟩ := I.tuple hc
    exact ⟨.list_tuple p1.isList (isT p2) hu, .list_tuple p1.isList (isT p2) hu⟩
  · cases (show v = Value.ref a from rx)
    cases (show u = Value.ref c from ry)
    obtain ⟨us, r1, p1, _⟩ := I.tuple ha
    obtain ⟨ws, r2, p2, _⟩ := I.list hc
    exact ⟨.tuple_list (isT p1) p2.isList hu, .tuple_list (isT p1) p2.isList hu⟩
  · cases (show v = Value.ref a from rx)
    rcases ha with ha | ha
    · obtain ⟨us, r1, p1, _⟩ := I.list ha
      cases y with
      | non => cases ry; exact ⟨.list_none p1.isList hu, .list_none p1.isList hu⟩
      | bl b => cases ry; exact ⟨.list_bool b p1.isList hu, .list_bool b p1.isList hu⟩
      | int j => obtain ⟨t, rfl⟩ := ry; exact ⟨.list_int j t p1.isList hu, .list_int j t p1.isList hu⟩
      | str j => obtain ⟨t, rfl⟩ := ry; exact ⟨.list_str j t p1.isList hu, .list_str j t p1.isList hu⟩
      | _ => cases fy
    · obtain ⟨us, r1, p1, _⟩ := I.tuple ha
      cases y with
      | non => cases ry; exact ⟨.tuple_none (isT p1) hu, .tuple_none (isT p1) hu⟩
      | bl b => cases ry; exact ⟨.tuple_bool b (isT p1) hu, .tuple_bool b (isT p1) hu⟩
      | int j => obtain ⟨t, rfl⟩ := ry; exact ⟨.tuple_int j t (isT p1) hu, .tuple_int j t (isT p1) hu⟩
      | str j => obtain ⟨t, rfl⟩ := ry; exact ⟨.tuple_str j t (isT p1) hu, .tuple_str j t (isT p1) hu⟩
      | _ => cases fy
  · cases (show u = Value.ref c from ry)
    rcases hc with hc | hc
    · obtain ⟨us, r1, p1, _⟩ := I.list hc
      cases x with
      | non => cases rx; exact ⟨.none_list p1.isList hu, .none_list p1.isList hu⟩
      | bl b => cases rx; exact ⟨.bool_list b p1.isList hu, .bool_list b p1.isList hu⟩
      | int j => obtain ⟨t, rfl⟩ := rx; exact ⟨.int_list j t p1.isList hu, .int_list j t p1.isList hu⟩
      | str j => obtain ⟨t, rfl⟩ := rx; exact ⟨.str_list j t p1.isList hu, .str_list j t p1.isList hu⟩
      | _ => cases fx
    · obtain ⟨us, r1, p1, _⟩ := I.tuple hc
      cases x with
      | non => cases rx; exact ⟨.none_tuple (isT p1) hu, .none_tuple (isT p1) hu⟩
      | bl b => cases rx; exact ⟨.bool_tuple b (isT p1) hu, .bool_tuple b (isT p1) hu⟩
      | int j => obtain ⟨t, rfl⟩ := rx; exact ⟨.int_tuple j t (isT p1) hu, .int_tuple j t (isT p1) hu⟩
      | str j => obtain ⟨t, rfl⟩ := rx; exact ⟨.str_tuple j t (isT p1) hu, .str_tuple j t (isT p1) hu⟩
      | _ => cases fx
theorem at_of_rc {A : Around} {x y : V} {b : Bool} {v u : Value} (I : Inv X pins σ H s) (hu : A.units < cLine) {E : V → V → Bool → Prop} (ih : ∀ x y b v u, E x y b → RelV x v → RelV y u → SeqAt.EqAt A.in1 s v u b)
    (h : EqT X.K H E x y b) (hs : ∀ a, ¬ (x = .ref a ∧ y = .ref a)) (rx : RelV x v) (ry : RelV y u) : SeqAt.EqAt A s v u b := by
  have rc := (eqT_rc I hu ih h rx ry).1
  rcases h with ⟨a, c, _, _, rfl, rfl, _⟩ | ⟨a, c, _, _, rfl, rfl, _⟩ | ⟨a, c, _, _, rfl, rfl, _⟩ | ⟨a, c, _, _, rfl, rfl, _⟩ | ⟨a, _, rfl, ha, fy, rfl⟩ | ⟨c, _, rfl, hc, fx, rfl⟩
  · cases (show v = Value.ref a from rx)
    cases (show u = Value.ref c from ry)
    exact .of_refs (fun e => hs a ⟨rfl, by rw [e]⟩) rc
  · cases (show v = Value.ref a from rx)
    cases (show u = Value.ref c from ry)
    exact .of_refs (fun e => hs a ⟨rfl, by rw [e]⟩) rc
  · cases (show v = Value.ref a from rx)
    cases (show u = Value.ref c from ry)
    exact .of_refs (fun e => hs a ⟨rfl, by rw [e]⟩) rc
  · cases (show v = Value.ref a from rx)
    cases (show u = Value.ref c from ry)
    exact .of_refs (fun e => hs a ⟨rfl, by rw [e]⟩) rc
  · cases (show v = Value.ref a from rx)
    rcases ha with ha | ha
    · obtain ⟨us, r1, p1, _⟩ := I.list ha
      cases y with
      | non => cases ry; exact .list_none p1.isList hu
      | bl b => cases ry; exact .list_bool b p1.isList hu
      | int j => obtain ⟨t, rfl⟩ := ry; exact .list_int j t p1.isList hu
      | str j => obtain ⟨t, rfl⟩ := ry; exact .list_str j t p1.isList hu
      | _ => cases fy
    · obtain ⟨us, r1, p1, _⟩ := I.tuple ha
      cases y with
      | non => cases ry; exact .tuple_none (isT p1) hu
      | bl b => cases ry; exact .tuple_bool b (isT p1) hu
      | int j => obtain ⟨t, rfl⟩ := ry; exact .tuple_int j t (isT p1) hu
      | str j => obtain ⟨t, rfl⟩ := ry; exact .tuple_str j t (isT p1) hu
      | _ => cases fy
  · cases (show u = Value.ref c from ry)
    rcases hc with hc | hc
    · obtain ⟨us, r1, p1, _⟩ := I.list hc
      cases x with
      | non => cases rx; exact .none_list p1.isList hu
      | bl b => cases rx; exact .bool_list b p1.isList hu
      | int j => obtain ⟨t, rfl⟩ := rx; exact .int_list j t p1.isList hu
      | str j => obtain ⟨t, rfl⟩ := rx; exact .str_list j t p1.isList hu
      | _ => cases fx
    · obtain ⟨us, r1, p1, _⟩ := I.tuple hc
      cases x with
      | non => cases rx; exact .none_tuple (isT p1) hu
      | bl b => cases rx; exact .bool_tuple b (isT p1) hu
      | int j => obtain ⟨t, rfl⟩ := rx; exact .int_tuple j t (isT p1) hu
      | str j => obtain ⟨t, rfl⟩ := rx; exact .str_tuple j t (isT p1) hu
      | _ => cases fx
/-- a comparison of an object with itself within data is true: so must b be -/
theorem eqT_self (I : Inv X pins σ H s) {n : Nat} : ∀ {x : V} {b : Bool}, EqW X.K H n x x b → b = true := by
  induction n with
  | zero =>
    intro x b h
    rcases h with ⟨f, _, rfl⟩ | ⟨a, _, _, rfl⟩
    · exact eqV_self f
    · rfl
  | succ n ih =>
    intro x b h
    rcases h with ⟨f, _, rfl⟩ | ⟨a, _, _, rfl⟩ | h
    · exact eqV_self f
    · rfl
    · have seq : ∀ {xs ys : List V}, xs = ys → SeqE (EqW X.K H n) xs ys b → b = true := fun {xs ys} e q => by
        subst e
        obtain ⟨e, he, rfl⟩ := q
        rw [decide_eq_true rfl, Bool.and_true]
        refine List.all_eq_true.mpr fun j hj => ?_
        have hj' := List.mem_range.mp hj
        rw [Nat.min_self] at hj'
        exact ih (he j _ _ (List.getElem?_eq_getElem hj') (List.getElem?_eq_getElem hj'))
      rcases h with ⟨a, c, xs, ys, e1, e2, ha, hc, h⟩ | ⟨a, c, xs, ys, e1, e2, ha, hc, h⟩ | ⟨a, c, xs, ys, e1, e2, ha, hc, h⟩ | ⟨a, c, xs, ys, e1, e2, ha, hc, h⟩ | ⟨a, _, rfl, _, fy, _⟩ | ⟨c, _, rfl, _, fx, _⟩
      · rw [e1] at e2; cases e2
        have e := I.list_inj ha hc
        rcases h with ⟨hl, _⟩ | h
        · exact absurd (congrArg List.length e) hl
        · exact seq e h
      · rw [e1] at e2; cases e2
        exact seq (I.tuple_inj ha hc) h
      · rw [e1] at e2; cases e2
        obtain ⟨us, r1, p1, _⟩ := I.list ha
        obtain ⟨ws, r2, p2, _⟩ := I.tuple hc
        exact absurd rfl (SeqAt.ne_of_list_tuple p1.isList (isT p2))
      · rw [e1] at e2; cases e2
        obtain ⟨us, r1, p1, _⟩ := I.tuple ha
        obtain ⟨ws, r2, p2, _⟩ := I.list hc
        exact absurd rfl (SeqAt.ne_of_list_tuple p2.isList (isT p1))
      · cases fy
      · cases fx
theorem eqW_run (I : Inv X pins σ H s) : ∀ (n : Nat) (A : Around), A.units + n < cLine → ∀ (x y : V) (b : Bool) (v u : Value), EqW X.K H n x y b → RelV x v → RelV y u → SeqAt.EqAt A s v u b
  | 0, A, hu, x, y, b, v, u, h, rx, ry => by
    rcases h with ⟨f1, f2, rfl⟩ | ⟨a, rfl, rfl, rfl⟩
    · exact eqAt_V rx ry f1 f2
    · cases (show v = Value.ref a from rx)
      cases (show u = Value.ref a from ry)
      exact .same _
  | n + 1, A, hu, x, y, b, v, u, h, rx, ry => by
    rcases id h with ⟨f1, f2, rfl⟩ | ⟨a, rfl, rfl, rfl⟩ | h2
    · exact eqAt_V rx ry f1 f2
    · cases (show v = Value.ref a from rx)
      cases (show u = Value.ref a from ry)
      exact .same _
    · by_cases hs : ∃ a, x = .ref a ∧ y = .ref a
      · obtain ⟨a, rfl, rfl⟩ := hs
        cases (show v = Value.ref a from rx)
        cases (show u = Value.ref a from ry)
        rw [eqT_self I h]
        exact .same _
      · exact at_of_rc I (by omega) (eqW_run I n A.in1 (by show A.units + 1 + n < cLine; omega)) h2 (fun a q => hs ⟨a, q⟩) rx ry
/-- the two answers at the top: not an object with itself taken for granted -/
def rEqW (K : PySem.W.Frag) (neg : Bool) : R2 := fun x y H Q => ∃ n b, n ≤ 60 ∧ ((flatV x = true ∧ flatV y = true ∧ b = eqV x y) ∨ EqT K H (EqW K H n) x y b) ∧ Q (.bl (if neg = true then !b else b)) H
theorem op_eqW (hu : X.A.units + 64 < cLine) : OpR X (compareOp .Eq) (rEqW X.K false) := by
  intro pins s σ H x y v u Q I rx ry h
  obtain ⟨n, b, hn, h, q⟩ := h
  have rc : SeqAt.RcAt X.A s v u b := by
    rcases h with ⟨f1, f2, rfl⟩ | h
    · exact (rc_flat f1 f2 rx ry).1
    · exact (eqT_rc I (by omega) (eqW_run I n X.A.in1 (by show X.A.units + 1 + n < cLine; omega)) h rx ry).1
  exact rc _ _ _ _ ⟨.bl b, H, I, rfl, q⟩
theorem op_neW (hu : X.A.units + 64 < cLine) : OpR X (compareOp .NotEq) (rEqW X.K true) := by
  intro pins s σ H x y v u Q I rx ry h
  obtain ⟨n, b, hn, h, q⟩ := h
  have rc : SeqAt.RcNeAt X.A s v u (!b) := by
    rcases h with ⟨f1, f2, rfl⟩ | h
    · exact (rc_flat f1 f2 rx ry).2
    · exact (eqT_rc I (by omega) (eqW_run I n X.A.in1 (by show X.A.units + 1 + n < cLine; omega)) h rx ry).2
  exact rc _ _ _ _ ⟨.bl (!b), H, I, rfl, q⟩
end
end Z
namespace Z
open PySem PySem.Spec PyProof.Rows L2
theorem seqE_self {K : PySem.W.Frag} {H : Hp} {n : Nat} (xs : List V) (h : xs.all flatV = true) : SeqE (EqW K H n) xs xs true :=
  ⟨fun _ => true, fun j x y e1 e2 => by
    rw [e1] at e2; cases e2
    have f := List.all_eq_true.mp h x (List.mem_of_getElem? e1)
    have q := EqW.flat (K := K) (H := H) (n := n) f f
    rwa [eqV_self f] at q, by rw [decide_eq_true rfl, Bool.and_true]; exact (List.all_eq_true.mpr fun _ _ => rfl).symm⟩
end Z

set_option Elab.async false
set_option linter.all false
set_option maxRecDepth 100000
set_option maxHeartbeats 4000000
namespace Z
open PySem PySem.Spec PyProof.Rows L2
/-! ### the text by places -/
def top (i : Nat) : Stmt := PySem.Challenge.pw_bluepaint_k01_tokens_judged.main.body.getD i (.Pass ⟨0, 0, 0, 0⟩)
abbrev st_word_end : Stmt := top 4
abbrev st_token_end : Stmt := top 5
abbrev st_is_token : Stmt := top 6
abbrev st__law_cell : Stmt := top 8
abbrev st__law_bag : Stmt := top 9
abbrev st__law_take : Stmt := top 10
abbrev st__law_word : Stmt := top 11
abbrev st__law_token : Stmt := top 12
abbrev st__law_thing : Stmt := top 13
abbrev st__law_is_due : Stmt := top 14
abbrev st__law_right : Stmt := top 15
abbrev st_law : Stmt := top 16
def dd_word_end : He.DefD := ⟨("word_end", none), "word_end", "word_end", defArgs st_word_end, defBody st_word_end, defScope st_word_end, [], []⟩
def dd_token_end : He.DefD := ⟨("token_end", none), "token_end", "token_end", defArgs st_token_end, defBody st_token_end, defScope st_token_end, [], []⟩
def dd_is_token : He.DefD := ⟨("is_token", none), "is_token", "is_token", defArgs st_is_token, defBody st_is_token, defScope st_is_token, [], []⟩
def dd__law_cell : He.DefD := ⟨("_law_cell", none), "_law_cell", "_law_cell", defArgs st__law_cell, defBody st__law_cell, defScope st__law_cell, [], []⟩
def dd__law_bag : He.DefD := ⟨("_law_bag", none), "_law_bag", "_law_bag", defArgs st__law_bag, defBody st__law_bag, defScope st__law_bag, [], []⟩
def dd__law_take : He.DefD := ⟨("_law_take", none), "_law_take", "_law_take", defArgs st__law_take, defBody st__law_take, defScope st__law_take, [], []⟩
def dd__law_word : He.DefD := ⟨("_law_word", none), "_law_word", "_law_word", defArgs st__law_word, defBody st__law_word, defScope st__law_word, [], []⟩
def dd__law_token : He.DefD := ⟨("_law_token", none), "_law_token", "_law_token", defArgs st__law_token, defBody st__law_token, defScope st__law_token, [], []⟩
def dd__law_thing : He.DefD := ⟨("_law_thing", none), "_law_thing", "_law_thing", defArgs st__law_thing, defBody st__law_thing, defScope st__law_thing, [], []⟩
def dd__law_is_due : He.DefD := ⟨("_law_is_due", none), "_law_is_due", "_law_is_due", defArgs st__law_is_due, defBody st__law_is_due, defScope st__law_is_due, [], []⟩
def dd__law_right : He.DefD := ⟨("_law_right", none), "_law_right", "_law_right", defArgs st__law_right, defBody st__law_right, defScope st__law_right, [], []⟩
def dd_law : He.DefD := ⟨("law", none), "law", "law", defArgs st_law, defBody st_law, defScope st_law, [], []⟩
def fn : List He.DefD := [dd_word_end, dd_token_end, dd_is_token, dd__law_cell, dd__law_bag, dd__law_take, dd__law_word, dd__law_token, dd__law_thing, dd__law_is_due, dd__law_right, dd_law]
def fa : List He.Fa := [.str "LETTERS" "abcdefghijklmnopqrstuvwxyzABCDEFGHIJKLMNOPQRSTUVWXYZ", .str "FIGURES" "0123456789", .glo "PAIRS", .glo "word_end", .glo "token_end", .glo "is_token", .glo "_law_cell", .glo "_law_bag", .glo "_law_take", .glo "_law_word", .glo "_law_token", .glo "_law_thing", .glo "_law_is_due", .glo "_law_right", .glo "law", .free "len", .free "isinstance", .free "str", .free "abs", .free "range", .free "min", .free "all", .free "list", .free "bool", .free "max"]
def exB (K : PySem.W.Frag) : Bool := He.tupB K "PAIRS" [.str "==", .str "!=", .str "<=", .str ">=", .str "&&", .str "||", .str "->"] && (true)
structure Top (w : World) (K : PySem.W.Frag) (mg : Str → Option Value) : Prop where
  ex : ∃ h : Heap, K.In h ∧ h.Ns mainGlobals mg ∧ He.SaysX fa fn [] [] exB w h K
section
variable {w : World} {K : PySem.W.Frag} {mg : Str → Option Value}
theorem Top.s_LETTERS (T : Top w K mg) : ∃ t, mg "LETTERS" = some (.str "abcdefghijklmnopqrstuvwxyzABCDEFGHIJKLMNOPQRSTUVWXYZ" t) := by
  obtain ⟨h, X, G, c⟩ := T
  have q := c.t.d.fact 0 (f := .str "LETTERS" "abcdefghijklmnopqrstuvwxyzABCDEFGHIJKLMNOPQRSTUVWXYZ") rfl
  exact He.str_ok X G q
theorem Top.s_FIGURES (T : Top w K mg) : ∃ t, mg "FIGURES" = some (.str "0123456789" t) := by
  obtain ⟨h, X, G, c⟩ := T
  have q := c.t.d.fact 1 (f := .str "FIGURES" "0123456789") rfl
  exact He.str_ok X G q
theorem Top.g_PAIRS (T : Top w K mg) : mg "PAIRS" = some (.ref (He.ga K "PAIRS")) := by
  obtain ⟨h, X, G, c⟩ := T
  have q := c.t.d.fact 2 (f := .glo "PAIRS") rfl
  exact He.glo_ok X G q
theorem Top.g_word_end (T : Top w K mg) : mg "word_end" = some (.ref (He.ga K "word_end")) := by
  obtain ⟨h, X, G, c⟩ := T
  have q := c.t.d.fact 3 (f := .glo "word_end") rfl
  exact He.glo_ok X G q
theorem Top.g_token_end (T : Top w K mg) : mg "token_end" = some (.ref (He.ga K "token_end")) := by
  obtain ⟨h, X, G, c⟩ := T
  have q := c.t.d.fact 4 (f := .glo "token_end") rfl
  exact He.glo_ok X G q
theorem Top.g_is_token (T : Top w K mg) : mg "is_token" = some (.ref (He.ga K "is_token")) := by
  obtain ⟨h, X, G, c⟩ := T
  have q := c.t.d.fact 5 (f := .glo "is_token") rfl
  exact He.glo_ok X G q
theorem Top.g__law_cell (T : Top w K mg) : mg "_law_cell" = some (.ref (He.ga K "_law_cell")) := by
  obtain ⟨h, X, G, c⟩ := T
  have q := c.t.d.fact 6 (f := .glo "_law_cell") rfl
  exact He.glo_ok X G q
theorem Top.g__law_bag (T : Top w K mg) : mg "_law_bag" = some (.ref (He.ga K "_law_bag")) := by
  obtain ⟨h, X, G, c⟩ := T
  have q := c.t.d.fact 7 (f := .glo "_law_bag") rfl
  exact He.glo_ok X G q
theorem Top.g__law_take (T : Top w K mg) : mg "_law_take" = some (.ref (He.ga K "_law_take")) := by
  obtain ⟨h, X, G, c⟩ := T
  have q := c.t.d.fact 8 (f := .glo "_law_take") rfl
  exact He.glo_ok X G q
theorem Top.g__law_word (T : Top w K mg) : mg "_law_word" = some (.ref (He.ga K "_law_word")) := by
  obtain ⟨h, X, G, c⟩ := T
  have q := c.t.d.fact 9 (f := .glo "_law_word") rfl
  exact He.glo_ok X G q
theorem Top.g__law_token (T : Top w K mg) : mg "_law_token" = some (.ref (He.ga K "_law_token")) := by
  obtain ⟨h, X, G, c⟩ := T
  have q := c.t.d.fact 10 (f := .glo "_law_token") rfl
  exact He.glo_ok X G q
theorem Top.g__law_thing (T : Top w K mg) : mg "_law_thing" = some (.ref (He.ga K "_law_thing")) := by
  obtain ⟨h, X, G, c⟩ := T
  have q := c.t.d.fact 11 (f := .glo "_law_thing") rfl
  exact He.glo_ok X G q
theorem Top.g__law_is_due (T : Top w K mg) : mg "_law_is_due" = some (.ref (He.ga K "_law_is_due")) := by
  obtain ⟨h, X, G, c⟩ := T
  have q := c.t.d.fact 12 (f := .glo "_law_is_due") rfl
  exact He.glo_ok X G q
theorem Top.g__law_right (T : Top w K mg) : mg "_law_right" = some (.ref (He.ga K "_law_right")) := by
  obtain ⟨h, X, G, c⟩ := T
  have q := c.t.d.fact 13 (f := .glo "_law_right") rfl
  exact He.glo_ok X G q
theorem Top.g_law (T : Top w K mg) : mg "law" = some (.ref (He.ga K "law")) := by
  obtain ⟨h, X, G, c⟩ := T
  have q := c.t.d.fact 14 (f := .glo "law") rfl
  exact He.glo_ok X G q
theorem Top.n_len (T : Top w K mg) : mg "len" = none := by
  obtain ⟨h, X, G, c⟩ := T
  have q := c.t.d.fact 15 (f := .free "len") rfl
  exact He.free_ok X G q
theorem Top.n_isinstance (T : Top w K mg) : mg "isinstance" = none := by
  obtain ⟨h, X, G, c⟩ := T
  have q := c.t.d.fact 16 (f := .free "isinstance") rfl
  exact He.free_ok X G q
theorem Top.n_str (T : Top w K mg) : mg "str" = none := by
  obtain ⟨h, X, G, c⟩ := T
  have q := c.t.d.fact 17 (f := .free "str") rfl
  exact He.free_ok X G q
theorem Top.n_abs (T : Top w K mg) : mg "abs" = none := by
  obtain ⟨h, X, G, c⟩ := T
  have q := c.t.d.fact 18 (f := .free "abs") rfl
  exact He.free_ok X G q
theorem Top.n_range (T : Top w K mg) : mg "range" = none := by
  obtain ⟨h, X, G, c⟩ := T
  have q := c.t.d.fact 19 (f := .free "range") rfl
  exact He.free_ok X G q
theorem Top.n_min (T : Top w K mg) : mg "min" = none := by
  obtain ⟨h, X, G, c⟩ := T
  have q := c.t.d.fact 20 (f := .free "min") rfl
  exact He.free_ok X G q
theorem Top.n_all (T : Top w K mg) : mg "all" = none := by
  obtain ⟨h, X, G, c⟩ := T
  have q := c.t.d.fact 21 (f := .free "all") rfl
  exact He.free_ok X G q
theorem Top.n_list (T : Top w K mg) : mg "list" = none := by
  obtain ⟨h, X, G, c⟩ := T
  have q := c.t.d.fact 22 (f := .free "list") rfl
  exact He.free_ok X G q
theorem Top.n_bool (T : Top w K mg) : mg "bool" = none := by
  obtain ⟨h, X, G, c⟩ := T
  have q := c.t.d.fact 23 (f := .free "bool") rfl
  exact He.free_ok X G q
theorem Top.n_max (T : Top w K mg) : mg "max" = none := by
  obtain ⟨h, X, G, c⟩ := T
  have q := c.t.d.fact 24 (f := .free "max") rfl
  exact He.free_ok X G q
theorem Top.tup_PAIRS (T : Top w K mg) : ∀ H : Hp, SqT K H (He.ga K "PAIRS") [V.str "==", V.str "!=", V.str "<=", V.str ">=", V.str "&&", V.str "||", V.str "->"] := by
  obtain ⟨h, X, G, c⟩ := T
  have q := c.more
  unfold exB at q
  replace q := (He.ba q).1
  exact fun H => He.tupB_ok q H
theorem Top.f_word_end (T : Top w K mg) : ∃ fd : FuncData, FunD K "word_end" "word_end" (defArgs st_word_end) (defBody st_word_end) (defScope st_word_end) (dd_word_end.dvs K) (dd_word_end.kws K) (He.ga K "word_end") fd := by
  obtain ⟨h, X, G, c⟩ := T
  exact c.t.d.def_ 0 (d := dd_word_end) rfl
theorem Top.f_token_end (T : Top w K mg) : ∃ fd : FuncData, FunD K "token_end" "token_end" (defArgs st_token_end) (defBody st_token_end) (defScope st_token_end) (dd_token_end.dvs K) (dd_token_end.kws K) (He.ga K "token_end") fd := by
  obtain ⟨h, X, G, c⟩ := T
  exact c.t.d.def_ 1 (d := dd_token_end) rfl
theorem Top.f_is_token (T : Top w K mg) : ∃ fd : FuncData, FunD K "is_token" "is_token" (defArgs st_is_token) (defBody st_is_token) (defScope st_is_token) (dd_is_token.dvs K) (dd_is_token.kws K) (He.ga K "is_token") fd := by
  obtain ⟨h, X, G, c⟩ := T
  exact c.t.d.def_ 2 (d := dd_is_token) rfl
theorem Top.f__law_cell (T : Top w K mg) : ∃ fd : FuncData, FunD K "_law_cell" "_law_cell" (defArgs st__law_cell) (defBody st__law_cell) (defScope st__law_cell) (dd__law_cell.dvs K) (dd__law_cell.kws K) (He.ga K "_law_cell") fd := by
  obtain ⟨h, X, G, c⟩ := T
  exact c.t.d.def_ 3 (d := dd__law_cell) rfl
theorem Top.f__law_bag (T : Top w K mg) : ∃ fd : FuncData, FunD K "_law_bag" "_law_bag" (defArgs st__law_bag) (defBody st__law_bag) (defScope st__law_bag) (dd__law_bag.dvs K) (dd__law_bag.kws K) (He.ga K "_law_bag") fd := by
  obtain ⟨h, X, G, c⟩ := T
  exact c.t.d.def_ 4 (d := dd__law_bag) rfl
theorem Top.f__law_take (T : Top w K mg) : ∃ fd : FuncData, FunD K "_law_take" "_law_take" (defArgs st__law_take) (defBody st__law_take) (defScope st__law_take) (dd__law_take.dvs K) (dd__law_take.kws K) (He.ga K "_law_take") fd := by
  obtain ⟨h, X, G, c⟩ := T
  exact c.t.d.def_ 5 (d := dd__law_take) rfl
theorem Top.f__law_word (T : Top w K mg) : ∃ fd : FuncData, FunD K "_law_word" "_law_word" (defArgs st__law_word) (defBody st__law_word) (defScope st__law_word) (dd__law_word.dvs K) (dd__law_word.kws K) (He.ga K "_law_word") fd := by
  obtain ⟨h, X, G, c⟩ := T
  exact c.t.d.def_ 6 (d := dd__law_word) rfl
theorem Top.f__law_token (T : Top w K mg) : ∃ fd : FuncData, FunD K "_law_token" "_law_token" (defArgs st__law_token) (defBody st__law_token) (defScope st__law_token) (dd__law_token.dvs K) (dd__law_token.kws K) (He.ga K "_law_token") fd := by
  obtain ⟨h, X, G, c⟩ := T
  exact c.t.d.def_ 7 (d := dd__law_token) rfl
theorem Top.f__law_thing (T : Top w K mg) : ∃ fd : FuncData, FunD K "_law_thing" "_law_thing" (defArgs st__law_thing) (defBody st__law_thing) (defScope st__law_thing) (dd__law_thing.dvs K) (dd__law_thing.kws K) (He.ga K "_law_thing") fd := by
  obtain ⟨h, X, G, c⟩ := T
  exact c.t.d.def_ 8 (d := dd__law_thing) rfl
theorem Top.f__law_is_due (T : Top w K mg) : ∃ fd : FuncData, FunD K "_law_is_due" "_law_is_due" (defArgs st__law_is_due) (defBody st__law_is_due) (defScope st__law_is_due) (dd__law_is_due.dvs K) (dd__law_is_due.kws K) (He.ga K "_law_is_due") fd := by
  obtain ⟨h, X, G, c⟩ := T
  exact c.t.d.def_ 9 (d := dd__law_is_due) rfl
theorem Top.f__law_right (T : Top w K mg) : ∃ fd : FuncData, FunD K "_law_right" "_law_right" (defArgs st__law_right) (defBody st__law_right) (defScope st__law_right) (dd__law_right.dvs K) (dd__law_right.kws K) (He.ga K "_law_right") fd := by
  obtain ⟨h, X, G, c⟩ := T
  exact c.t.d.def_ 10 (d := dd__law_right) rfl
theorem Top.f_law (T : Top w K mg) : ∃ fd : FuncData, FunD K "law" "law" (defArgs st_law) (defBody st_law) (defScope st_law) (dd_law.dvs K) (dd_law.kws K) (He.ga K "law") fd := by
  obtain ⟨h, X, G, c⟩ := T
  exact c.t.d.def_ 11 (d := dd_law) rfl
end
/-! ### names by slots -/
theorem sc_word_end : FnScope ["row", "at", "end"] ["row", "at"] (defScope st_word_end) := ⟨rfl, rfl, rfl, by decide +kernel, rfl, by decide +kernel, by decide +kernel⟩
theorem sc_token_end : FnScope ["row", "at", "sign", "closing"] ["row", "at"] (defScope st_token_end) := ⟨rfl, rfl, rfl, by decide +kernel, rfl, by decide +kernel, by decide +kernel⟩
theorem sc_is_token : FnScope ["thing"] ["thing"] (defScope st_is_token) := ⟨rfl, rfl, rfl, by decide +kernel, rfl, by decide +kernel, by decide +kernel⟩
theorem sc__law_cell : FnScope ["_law_script", "_law_k"] ["_law_script", "_law_k"] (defScope st__law_cell) := ⟨rfl, rfl, rfl, by decide +kernel, rfl, by decide +kernel, by decide +kernel⟩
theorem sc__law_bag : FnScope ["_law_script", "_law_at", "_law_cell_here", "_law_mix", "_law_k"] ["_law_script", "_law_at"] (defScope st__law_bag) := ⟨rfl, rfl, rfl, by decide +kernel, rfl, by decide +kernel, by decide +kernel⟩
theorem sc__law_take : FnScope ["_law_bag_here", "_law_many", "_law_digit"] ["_law_bag_here", "_law_many"] (defScope st__law_take) := ⟨rfl, rfl, rfl, by decide +kernel, rfl, by decide +kernel, by decide +kernel⟩
theorem sc__law_word : FnScope ["_law_bag_here", "_law_first", "_law_signs", "_law_word_here", "_law_k"] ["_law_bag_here", "_law_first"] (defScope st__law_word) := ⟨rfl, rfl, rfl, by decide +kernel, rfl, by decide +kernel, by decide +kernel⟩
theorem sc__law_token : FnScope ["_law_bag_here", "_law_signs", "_law_way", "_law_inner", "_law_k"] ["_law_bag_here"] (defScope st__law_token) := ⟨rfl, rfl, rfl, by decide +kernel, rfl, by decide +kernel, by decide +kernel⟩
theorem sc__law_thing : FnScope ["_law_bag_here", "_law_one", "_law_other", "_law_way", "_law_at", "_law_odd", "_law_some"] ["_law_bag_here"] (defScope st__law_thing) := ⟨rfl, rfl, rfl, by decide +kernel, rfl, by decide +kernel, by decide +kernel⟩
theorem sc__law_is_due : FnScope ["_law_thing_here", "_law_signs", "_law_sign"] ["_law_thing_here"] (defScope st__law_is_due) := ⟨rfl, rfl, rfl, by decide +kernel, rfl, by decide +kernel, by decide +kernel⟩
theorem sc__law_right : FnScope ["_law_thing_here", "_law_handed", "_law_found"] ["_law_thing_here"] (defScope st__law_right) := ⟨rfl, rfl, rfl, by decide +kernel, rfl, by decide +kernel, by decide +kernel⟩
theorem sc_law : FnScope ["_law_script", "_law_k", "_law_bag_here", "_law_turn", "_law_some", "_law_thing_here"] ["_law_script"] (defScope st_law) := ⟨rfl, rfl, rfl, by decide +kernel, rfl, by decide +kernel, by decide +kernel⟩
end Z

namespace Z
open PySem PySem.Spec PyProof.Rows L2
/-! ### tokens: word_end, token_end -/
def sp_word_end : Sp := fun vs H Q _ => ∃ (z : Str) (i : Int), vs = [.str z, .int i] ∧ z.length ≤ sizeLine ∧ 0 ≤ i ∧ i ≤ z.length ∧ Q (.int (i + (wE ((cl z).drop i.toNat) : Nat))) H
theorem wE_drop {l : List Nat} {e : Nat} {c : Nat} (h : l[e]? = some c) : wE (l.drop e) = if isLF c = true then wE (l.drop (e + 1)) + 1 else 0 := by
  obtain ⟨h1, h2⟩ := List.getElem?_eq_some_iff.mp h
  rw [List.drop_eq_getElem_cons h1, h2]
  by_cases q : isLF c = true
  · rw [if_pos q, wE_pos q]
  · rw [if_neg q, wE_neg q]
theorem wE_end {l : List Nat} {e : Nat} (h : l.length ≤ e) : wE (l.drop e) = 0 := by
  rw [List.drop_eq_nil_of_le h]; rfl
theorem ok_word_end {P : Program} {w : World} {K : PySem.W.Frag} {mg : Str → Option Value} (T : Top w K mg) : ∃ fd : FuncData, FunD K "word_end" "word_end" (defArgs st_word_end) (defBody st_word_end) (defScope st_word_end) (dd_word_end.dvs K) (dd_word_end.kws K) (He.ga K "word_end") fd ∧ ∀ base : Heap, FnOk P w K mg base CX0 1 (He.ga K "word_end") fd ["row", "at"] sp_word_end := by
  obtain ⟨fd, F⟩ := T.f_word_end
  refine ⟨fd, F, fun base => F.ok sc_word_end (fun vs H Q E h => by obtain ⟨_, _, rfl, _⟩ := h; rfl) (fun cdv A outer s H vs Q E hr h => ⟨_, PSs.nox
 ((pss_cons (ps_set (i := 2) sc_word_end.nd rfl (Or.inl rfl) (pv 1))
 (pss_cons (ps_while PassesOwn.never (PW.pt (pw_and (pt_cmpR op_lt (pv 2) (pe_callB call_len_str (by rfl) T.n_len (by decide +kernel) (pa_cons (pv 0) pa_nil)) (nomark _)) (pw_and1 (PW.pt (pw_or (pt_cmpR op_in_sign (pe_ix ix_str (pv 0) (pv 2) (fun _ _ => rfl)) (pe_gs T.s_LETTERS) (by rfl)) (pw_or1 (pt_cmpR op_in_sign (pe_ix ix_str (pv 0) (pv 2) (fun _ _ => rfl)) (pe_gs T.s_FIGURES) (by rfl))))))))
 (pss_one (ps_aug (i := 2) sc_word_end.nd rfl (Or.inl rfl) pe_int iop_add)))
 (pss_one (ps_ret (pv 2)))))), ?_⟩)⟩
  obtain ⟨z, i, rfl, hz, h0, h1, kQ⟩ := h
  have hcl := cl_len z
  refine ⟨_, rfl, fun m σ H' => H' = H ∧ ∃ e : Nat, σ = [some (.str z), some (.int i), some (.int e)] ∧ i ≤ e ∧ e ≤ z.length ∧ m = z.length - e ∧ (i + (wE ((cl z).drop i.toNat) : Nat) : Int) = e + (wE ((cl z).drop e) : Nat), ⟨_, rfl, i.toNat, (by show [_, _, some (V.int i)] = _; rw [Int.toNat_of_nonneg h0]), by omega, by omega, rfl, by omega⟩, ?_⟩
  rintro m σ H' ⟨rfl, e, rfl, e0, e1, rfl, ee⟩
  have fin : wE ((cl z).drop e) = 0 → (Q (.int e) H' : Prop) := fun q => by
    have e2 : (i + (wE ((cl z).drop i.toNat) : Nat) : Int) = e := by rw [ee, q]; omega
    rw [← e2]; exact kQ
  refine ⟨_, rfl, _, rfl, z, rfl, hz, _, _, rfl, rfl, _, rfl, ?_⟩
  refine iteD (fun c => ?_) (fun c => ?_)
  · have c' : e < (cl z).length := by omega
    have hx : (cl z)[e]? = some ((cl z)[e]) := List.getElem?_eq_getElem c'
    have hd := wE_drop hx
    have go : isLF (cl z)[e] = true → (∃ m', m' < z.length - e ∧ H' = H' ∧ ∃ e2 : Nat, [some (V.str z), some (.int i), some (.int ((e : Int) + 1))] = [some (V.str z), some (.int i), some (.int e2)] ∧ i ≤ e2 ∧ e2 ≤ z.length ∧ m' = z.length - e2 ∧ (i + (wE ((cl z).drop i.toNat) : Nat) : Int) = e2 + (wE ((cl z).drop e2) : Nat)) := fun q => by
      rw [if_pos q] at hd
      exact ⟨_, by omega, rfl, e + 1, rfl, by omega, by omega, rfl, by omega⟩
    refine ⟨_, rfl, _, rfl, z, _, _, rfl, rfl, hz, atI_nat hx, _, _, rfl, rfl, _, rfl, ?_⟩
    refine iteB (fun a => ?_) (fun a => ?_)
    · exact ⟨_, fun _ _ h => h, _, rfl, _, _, rfl, rfl, go (by unfold isLF; rw [show isL _ = true from a]; rfl)⟩
    · refine ⟨_, rfl, _, rfl, z, _, _, rfl, rfl, hz, atI_nat hx, _, _, rfl, rfl, _, rfl, ?_⟩
      refine iteB (fun b => ?_) (fun b => ?_)
      · exact ⟨_, fun _ _ h => h, _, rfl, _, _, rfl, rfl, go (by unfold isLF; rw [show isF _ = true from b, Bool.or_true])⟩
      · have nq : isLF (cl z)[e] = false := by unfold isLF; rw [show isF _ = false from b, show isL _ = false from a]; rfl
        rw [nq, if_neg (by decide)] at hd
        exact ⟨_, rfl, fin hd⟩
  · exact ⟨_, rfl, fin (wE_end (by omega))⟩
theorem cal_word_end {P : Program} {w : World} {K : PySem.W.Frag} {mg : Str → Option Value} {base : Heap} (T : Top w K mg) : Callee P w K mg base CX0 1 "word_end" sp_word_end [] := by
  obtain ⟨fd, F, S⟩ := ok_word_end (P := P) T
  exact ⟨fd, _, [], S base, T.g_word_end, F.kp, F.bindsN (fun _ _ _ _ _ _ us hl => match us, hl with | [_, _], _ => rfl), .nil⟩

def ofTok (i : Int) : Option Nat → V
  | none => .non
  | some n => .int (i + (n : Nat))
def sp_token_end : Sp := fun vs H Q _ => ∃ (z : Str) (i : Nat), vs = [.str z, .int i] ∧ z.length ≤ sizeLine ∧ i < z.length ∧ Q (ofTok i (tokLen ((cl z).drop i))) H
theorem getD_drop (l : List Nat) (i v : Nat) : (l.drop i).getD v 0 = l.getD (i + v) 0 := by
  rw [List.getD_eq_getElem?_getD, List.getD_eq_getElem?_getD, List.getElem?_drop]
theorem getD_cl (z : Str) (v : Nat) : z.cps.getD v 0 = (cl z).getD v 0 := by
  rw [List.getD_eq_getElem?_getD, Array.getElem?_toList, Array.getD_eq_getD_getElem?]
theorem from_nat {n k : Nat} : PySem.fromIndex n (k : Int) = k := by
  unfold PySem.fromIndex
  rw [if_neg (by omega)]; omega
theorem find_q (z : Str) (i : Nat) (hi : i < z.length) : Txt.find3 z ("\"" : Str) ((i : Int) + 1) = match qAt ((cl z).drop (i + 1)) with | none => -1 | some k => (i : Int) + 1 + (k : Nat) := by
  have hcl := cl_len z
  have e0 : (((i + 1 : Nat)) : Int) = (i : Int) + 1 := rfl
  have es : ("\"" : Str) = ⟨#[34]⟩ := by decide +kernel
  rw [es, ← e0]
  rcases PySem.StrLaws.find3_spec z 34 ((i + 1 : Nat) : Int) with ⟨h1, h2⟩ | ⟨k, h1, h2, h3, h4, h5⟩
  · rw [h1, qAt_none (l := (cl z).drop (i + 1)) fun v hv => by
      rw [List.length_drop] at hv
      rw [getD_drop, ← getD_cl]
      exact h2 _ (by rw [from_nat]; omega) (by omega)]
  · rw [from_nat] at h2
    rw [h1, qAt_some (l := (cl z).drop (i + 1)) (k := k - (i + 1)) (by rw [List.length_drop]; omega) (by rw [getD_drop, ← getD_cl, show i + 1 + (k - (i + 1)) = k by omega]; exact h4) fun v hv => by
      rw [getD_drop, ← getD_cl]
      exact h5 _ (by rw [from_nat]; omega) (by omega)]
    show (k : Int) = (i : Int) + 1 + ((k - (i + 1) : Nat) : Int)
    omega
theorem cut2 (z : Str) (i : Nat) : cl (cutS z (some (i : Int)) (some ((i : Int) + 2))) = ((cl z).drop i).take 2 := by
  have e : ((i : Int) + 2) = ((i + 2 : Nat) : Int) := rfl
  show (((cl z).drop (HT.sIx z.length 0 (some (i : Int)))).take (HT.sIx z.length z.length (some ((i : Int) + 2)) - HT.sIx z.length 0 (some (i : Int)))) = _
  rw [e, HT.sIx_nat, HT.sIx_nat]
  have hcl := cl_len z
  by_cases h : i ≤ z.length
  · rw [Nat.min_eq_left h]
    by_cases h2 : i + 2 ≤ z.length
    · rw [Nat.min_eq_left h2, show i + 2 - i = 2 by omega]
    · rw [Nat.min_eq_right (by omega), List.take_of_length_le (by rw [List.length_drop]; omega), List.take_of_length_le (by rw [List.length_drop]; omega)]
  · rw [Nat.min_eq_right (by omega), Nat.min_eq_right (by omega), show (cl z).drop z.length = [] from List.drop_eq_nil_of_le (by omega), show (cl z).drop i = [] from List.drop_eq_nil_of_le (by omega)]
    simp
theorem in_prs (z : Str) : inV (.str z) [.str "==", .str "!=", .str "<=", .str ">=", .str "&&", .str "||", .str "->"] = decide (cl z ∈ prs) := by
  have q : ∀ y : Str, eqV (.str y) (.str z) = decide (cl z = cl y) := fun y => by
    show (y == z) = _
    rw [Bool.eq_iff_iff]
    simp only [beq_iff_eq, decide_eq_true_eq]
    rw [str_eq]; exact ⟨Eq.symm, Eq.symm⟩
  unfold inV prs
  simp only [List.any_cons, List.any_nil, q, Bool.or_false, List.mem_cons, List.not_mem_nil, or_false, Bool.decide_or]
  have e1 : cl ("==" : Str) = [61, 61] := by decide +kernel
  have e2 : cl ("!=" : Str) = [33, 61] := by decide +kernel
  have e3 : cl ("<=" : Str) = [60, 61] := by decide +kernel
  have e4 : cl (">=" : Str) = [62, 61] := by decide +kernel
  have e5 : cl ("&&" : Str) = [38, 38] := by decide +kernel
  have e6 : cl ("||" : Str) = [124, 124] := by decide +kernel
  have e7 : cl ("->" : Str) = [45, 62] := by decide +kernel
  rw [e1, e2, e3, e4, e5, e6, e7]
theorem ok_token_end {P : Program} {w : World} {K : PySem.W.Frag} {mg : Str → Option Value} (T : Top w K mg) : ∃ fd : FuncData, FunD K "token_end" "token_end" (defArgs st_token_end) (defBody st_token_end) (defScope st_token_end) (dd_token_end.dvs K) (dd_token_end.kws K) (He.ga K "token_end") fd ∧ ∀ base : Heap, FnOk P w K mg base CX0 2 (He.ga K "token_end") fd ["row", "at"] sp_token_end := by
  obtain ⟨fd, F⟩ := T.f_token_end
  refine ⟨fd, F, fun base => F.ok sc_token_end (fun vs H Q E h => by obtain ⟨_, _, rfl, _⟩ := h; rfl) (fun cdv A outer s H vs Q E hr h => ⟨_, PSs.nox
 ((pss_cons (ps_set (i := 2) sc_token_end.nd rfl (Or.inl rfl) (pe_ix ix_str (pv 0) (pv 1) (fun _ _ => rfl)))
 (pss_cons (ps_if (pt_cmpR op_eq (pv 2) pe_str (nomark _))
 (pss_cons (ps_set (i := 3) sc_token_end.nd rfl (Or.inl rfl) (pe_bm PySem.F.plainAttrs_str PySem.F.slot_str_find PySem.F.type_str_find mt_find3 (pv 0) (pa_cons pe_str (pa_cons (pe_op op_add (pv 1) pe_int) pa_nil))))
 (pss_one (ps_ret (pe_ifExp (pt_cmpR op_lt (pv 3) pe_int (nomark _)) pe_non (pe_op op_add (pv 3) pe_int)))))
 pss_nil)
 (pss_cons (ps_if (PW.pt (pw_or (pt_cmpR op_in_sign (pv 2) (pe_gs T.s_LETTERS) (by rfl)) (pw_or1 (pt_cmpR op_in_sign (pv 2) (pe_gs T.s_FIGURES) (by rfl)))))
 (pss_one (ps_ret (pc (cal_word_end T) hr (by decide) pass0 rfl (pa_cons (pv 0) (pa_cons (pv 1) pa_nil)))))
 pss_nil)
 (pss_one (ps_ret (pe_ifExp (pt_cmpR op_in_seq (pe_slice sl_str (pv 0) (po_some (pv 1)) (po_some (pe_op op_add (pv 1) pe_int))) (pe_gr T.g_PAIRS) (by rfl)) (pe_op op_add (pv 1) pe_int) (pe_op op_add (pv 1) pe_int)))))))), ?_⟩)⟩
  obtain ⟨z, i, rfl, hz, hi, kQ⟩ := h
  have hcl := cl_len z
  have hi' : i < (cl z).length := by omega
  obtain ⟨c, r, hd⟩ : ∃ c r, (cl z).drop i = c :: r := ⟨_, _, List.drop_eq_getElem_cons hi'⟩
  have hx : (cl z)[i]? = some c := by
    have q : ((cl z).drop i)[0]? = some c := by rw [hd]; rfl
    rwa [List.getElem?_drop, Nat.add_zero] at q
  have hr1 : (cl z).drop (i + 1) = r := by
    have q : ((cl z).drop i).drop 1 = r := by rw [hd]; rfl
    rwa [List.drop_drop] at q
  have hc1 : ∀ y : Str, y.length = 1 → (decide (V.str ⟨#[c]⟩ = V.str y)) = decide (c = (cl y).getD 0 0) := fun y hy => by
    rw [decide_eq_decide, V.str.injEq, str_eq]
    have hyl := cl_len y
    show [c] = cl y ↔ _
    cases e : cl y with
    | nil => rw [e] at hyl; simp at hyl; omega
    | cons a b =>
      have hb : b = [] := by rw [e] at hyl; simp at hyl; exact List.eq_nil_of_length_eq_zero (by omega)
      subst hb
      simp
  rw [hd, tokLen_cons] at kQ
  refine ⟨_, rfl, _, rfl, z, _, _, rfl, rfl, hz, atI_nat hx, _, rfl, rfl, _, rfl, ?_⟩
  rw [hc1 _ (by decide +kernel), show (cl ("\"" : Str)).getD 0 0 = 34 by decide +kernel]
  refine iteD (fun c34 => ?_) (fun c34 => ?_)
  · rw [if_pos c34] at kQ
    refine ⟨_, rfl, rfl, _, rfl, _, _, rfl, rfl, z, _, _, rfl, rfl, ?_⟩
    rw [find_q z i hi, hr1]
    refine ⟨_, rfl, _, _, rfl, rfl, _, rfl, ?_⟩
    cases q : qAt r with
    | none =>
      rw [q] at kQ
      exact iteT kQ
    | some k =>
      rw [q] at kQ
      show if decide ((i : Int) + 1 + (k : Int) < 0) = true then _ else _
      refine iteD (fun h => absurd h (by omega)) (fun _ => ⟨_, rfl, _, _, rfl, rfl, ?_⟩)
      have e : (i : Int) + 1 + (k : Int) + 1 = (i : Int) + ((k + 2 : Nat) : Int) := by omega
      show Q (.int ((i : Int) + 1 + (k : Int) + 1)) H
      rw [e]; exact kQ
  · rw [if_neg c34] at kQ
    have wcall : isLF c = true → (sp_word_end ([V.str z, V.int i] ++ []) H Q E : Prop) := fun q => by
      rw [if_pos q] at kQ
      refine ⟨z, i, rfl, hz, by omega, by omega, ?_⟩
      rw [Int.toNat_natCast, hd, wE_pos q]; exact kQ
    refine ⟨_, rfl, _, _, rfl, rfl, _, rfl, ?_⟩
    refine iteB (fun a => ?_) (fun a => ?_)
    · exact ⟨_, rfl, _, rfl, wcall (by unfold isLF; rw [show isL _ = true from a]; rfl)⟩
    · refine ⟨_, rfl, _, _, rfl, rfl, _, rfl, ?_⟩
      refine iteB (fun b => ?_) (fun b => ?_)
      · exact ⟨_, rfl, _, rfl, wcall (by unfold isLF; rw [show isF _ = true from b, Bool.or_true])⟩
      · have nq : ¬ isLF c = true := by unfold isLF; rw [show isF _ = false from b, show isL _ = false from a]; decide
        rw [if_neg nq] at kQ
        refine ⟨_, rfl, _, rfl, _, rfl, _, rfl, _, _, rfl, rfl, _, rfl, z, rfl, hz, _, _, rfl, .inr (T.tup_PAIRS H), rfl, rfl, _, rfl, ?_⟩
        have ep := in_prs (cutS z (some (i : Int)) (some ((i : Int) + 2)))
        rw [cut2, hd] at ep
        show if inV _ _ = true then _ else _
        rw [show inV _ _ = _ from ep]
        refine iteD (fun p => ?_) (fun p => ?_)
        · rw [if_pos p] at kQ
          exact ⟨_, rfl, _, _, rfl, rfl, kQ⟩
        · rw [if_neg p] at kQ
          exact ⟨_, rfl, _, _, rfl, rfl, kQ⟩
theorem cal_token_end {P : Program} {w : World} {K : PySem.W.Frag} {mg : Str → Option Value} {base : Heap} (T : Top w K mg) : Callee P w K mg base CX0 2 "token_end" sp_token_end [] := by
  obtain ⟨fd, F, S⟩ := ok_token_end (P := P) T
  exact ⟨fd, _, [], S base, T.g_token_end, F.kp, F.bindsN (fun _ _ _ _ _ _ us hl => match us, hl with | [_, _], _ => rfl), .nil⟩


end Z

namespace Z
open PySem PySem.Spec PyProof.Rows L2
/-! ### the script's cells, the bag of draws -/
def Bag (n f : Int) : Prop := (f = 0 ∧ 0 ≤ n ∧ n < 10 ^ 180) ∨ (f ≠ 0 ∧ 0 < f ∧ 0 ≤ n ∧ n < 2147483647)
def BagAt (H : Hp) (b : Addr) : Prop := ∃ n f : Int, H b = some (.lst [.int n, .int f]) ∧ Bag n f
theorem BagAt.new {H : Hp} {b p : Addr} {o : HO} (h : BagAt H b) (hp : H p = none) : BagAt (upd H p o) b := by
  obtain ⟨n, f, e, B⟩ := h
  exact ⟨n, f, upd_new hp e, B⟩
theorem BagAt.ne {H : Hp} {b p : Addr} (h : BagAt H b) (hp : H p = none) : b ≠ p := by
  obtain ⟨n, f, e, B⟩ := h
  exact ne_of_none e hp
def sp__law_cell (K : PySem.W.Frag) : Sp := fun vs H Q _ => ∃ (a : Addr) (k : Int), vs = [.ref a, .int k] ∧ (∃ ns : List Int, SqL K H a (ns.map V.int) ∧ ns.length ≤ 63) ∧ 0 ≤ k ∧ ∀ i : Int, Q (.int i) H
theorem ok__law_cell {P : Program} {w : World} {K : PySem.W.Frag} {mg : Str → Option Value} (T : Top w K mg) : ∃ fd : FuncData, FunD K "_law_cell" "_law_cell" (defArgs st__law_cell) (defBody st__law_cell) (defScope st__law_cell) (dd__law_cell.dvs K) (dd__law_cell.kws K) (He.ga K "_law_cell") fd ∧ ∀ base : Heap, FnOk P w K mg base CX0 1 (He.ga K "_law_cell") fd ["_law_script", "_law_k"] (sp__law_cell K) := by
  obtain ⟨fd, F⟩ := T.f__law_cell
  refine ⟨fd, F, fun base => F.ok sc__law_cell (fun vs H Q E h => by obtain ⟨_, _, rfl, _⟩ := h; rfl) (fun cdv A outer s H vs Q E hr h => ⟨_, PSs.nox
 ((pss_cons (ps_if (pt_cmpR op_lt (pv 1) (pe_callB call_len_seq (by rfl) T.n_len (by decide +kernel) (pa_cons (pv 0) pa_nil)) (nomark _))
 (pss_one (ps_ret (pe_ix ix_list (pv 0) (pv 1) (fun _ _ => rfl))))
 pss_nil)
 (pss_one (ps_ret pe_int)))), ?_⟩)⟩
  obtain ⟨a, k, rfl, ⟨ns, hS, hl⟩, h0, kQ⟩ := h
  refine ⟨_, rfl, _, rfl, a, _, rfl, .inl hS, _, _, rfl, rfl, _, rfl, ?_⟩
  refine iteD (fun c => ?_) (fun c => kQ 0)
  rw [List.length_map] at c
  have hk : k.toNat < ns.length := by omega
  have hx : (ns.map V.int)[k.toNat]? = some (V.int ns[k.toNat]) := by rw [List.getElem?_map, List.getElem?_eq_getElem hk]; rfl
  exact ⟨_, rfl, _, rfl, a, _, _, _, rfl, rfl, hS, at_of (by omega) hx, kQ _⟩
theorem cal__law_cell {P : Program} {w : World} {K : PySem.W.Frag} {mg : Str → Option Value} {base : Heap} (T : Top w K mg) : Callee P w K mg base CX0 1 "_law_cell" (sp__law_cell K) [] := by
  obtain ⟨fd, F, S⟩ := ok__law_cell (P := P) T
  exact ⟨fd, _, [], S base, T.g__law_cell, F.kp, F.bindsN (fun _ _ _ _ _ _ us hl => match us, hl with | [_, _], _ => rfl), .nil⟩

theorem lt180 {x : Int} : x % (10 ^ 60 * 10 ^ 60 * 10 ^ 60) < 10 ^ 180 := by
  have h := Int.emod_lt_of_pos x (show (0 : Int) < 10 ^ 60 * 10 ^ 60 * 10 ^ 60 by decide)
  have e : (10 ^ 60 * 10 ^ 60 * 10 ^ 60 : Int) = 10 ^ 180 := by decide +kernel
  rw [e] at h ⊢
  exact h
def sp__law_bag (K : PySem.W.Frag) : Sp := fun vs H Q _ => ∃ (a : Addr) (k : Int), vs = [.ref a, .int k] ∧ (∃ ns : List Int, SqL K H a (ns.map V.int) ∧ ns.length ≤ 63) ∧ 0 ≤ k ∧ ∀ (p : Addr) (n f : Int), H p = none → Bag n f → Q (.ref p) (upd H p (.lst [.int n, .int f]))
theorem ok__law_bag {P : Program} {w : World} {K : PySem.W.Frag} {mg : Str → Option Value} (T : Top w K mg) : ∃ fd : FuncData, FunD K "_law_bag" "_law_bag" (defArgs st__law_bag) (defBody st__law_bag) (defScope st__law_bag) (dd__law_bag.dvs K) (dd__law_bag.kws K) (He.ga K "_law_bag") fd ∧ ∀ base : Heap, FnOk P w K mg base CX0 2 (He.ga K "_law_bag") fd ["_law_script", "_law_at"] (sp__law_bag K) := by
  obtain ⟨fd, F⟩ := T.f__law_bag
  refine ⟨fd, F, fun base => F.ok sc__law_bag (fun vs H Q E h => by obtain ⟨_, _, rfl, _⟩ := h; rfl) (fun cdv A outer s H vs Q E hr h => ⟨_, PSs.nox
 ((pss_cons (ps_set (i := 2) sc__law_bag.nd rfl (Or.inl rfl) (pe_op op_mod (pe_callB call_abs (by rfl) T.n_abs (by decide +kernel) (pa_cons (pc (cal__law_cell T) hr (by decide) pass0 rfl (pa_cons (pv 0) (pa_cons (pv 1) pa_nil))) pa_nil)) (pe_op op_mulW (pe_op op_mulW (pe_op op_pow pe_int pe_int) (pe_op op_pow pe_int pe_int)) (pe_op op_pow pe_int pe_int))))
 (pss_cons (ps_if (pt_cmpR op_ge (pv 2) (pe_op op_pow pe_int pe_int) (nomark _))
 (pss_one (ps_ret (pe_lst (pa_cons (pv 2) (pa_cons pe_int pa_nil)))))
 pss_nil)
 (pss_cons (ps_set (i := 3) sc__law_bag.nd rfl (Or.inl rfl) (pe_op op_mod (pe_op op_add (pe_op op_add (pv 2) (pe_op op_mul pe_int (pv 1))) pe_int) pe_int))
 (pss_cons (ps_for PassesOwn.never rfl (pi_range1 rfl T.n_range (pa_cons (pe_callB (call_min2 rfl) (by rfl) T.n_min (by decide +kernel) (pa_cons (pe_callB call_len_seq (by rfl) T.n_len (by decide +kernel) (pa_cons (pv 0) pa_nil)) (pa_cons pe_int pa_nil))) pa_nil)) (pg_name (i := 4) sc__law_bag.nd rfl (Or.inl rfl))
 (pss_one (ps_set (i := 3) sc__law_bag.nd rfl (Or.inl rfl) (pe_op op_mod (pe_op op_add (pe_op op_add (pe_op op_pow (pv 3) pe_int) (pe_op op_mod (pe_ix ix_list (pv 0) (pv 4) (fun _ _ => rfl)) pe_int)) (pe_op op_mul pe_int (pv 4))) pe_int))))
 (pss_one (ps_ret (pe_lst (pa_cons (pv 3) (pa_cons pe_int pa_nil)))))))))), ?_⟩)⟩
  obtain ⟨a, k, rfl, ⟨ns, hS, hl⟩, h0, kQ⟩ := h
  refine ⟨_, rfl, _, rfl, a, k, rfl, ⟨ns, hS, hl⟩, h0, fun i => ?_⟩
  refine ⟨_, rfl, _, _, rfl, rfl, ⟨by decide, by decide, by decide⟩, _, _, rfl, rfl, ⟨by decide, by decide, by decide⟩, _, _, rfl, rfl, wide_mul (a := 300) (b := 300) (by decide +kernel) (by decide +kernel) (by decide) (by decide) (by decide), ?_⟩
  refine ⟨_, _, rfl, rfl, ⟨by decide, by decide, by decide⟩, _, _, rfl, rfl, wide_mul (a := 600) (b := 300) (by decide +kernel) (by decide +kernel) (by decide) (by decide) (by decide), ?_⟩
  refine ⟨_, _, rfl, rfl, (by show (0 : Int) < 10 ^ 60 * 10 ^ 60 * 10 ^ 60; decide +kernel), ?_⟩
  dsimp only
  simp only [show Int.toNat 60 = 60 from rfl]
  generalize hx : (if i < 0 then -i else i) % _ = x
  have hx0 : 0 ≤ x := by rw [← hx]; exact Int.emod_nonneg _ (by decide +kernel)
  have hx1 : x < 10 ^ 180 := by rw [← hx]; exact lt180
  clear hx
  refine ⟨_, rfl, _, _, rfl, rfl, ⟨by decide, by decide, by decide⟩, _, _, rfl, rfl, _, rfl, ?_⟩
  refine iteD (fun c => ?_) (fun c => ?_)
  · exact ⟨_, rfl, (by show 2 ≤ sizeLine; decide), fun p hp => kQ p x 0 hp (.inl ⟨rfl, hx0, hx1⟩)⟩
  refine ⟨_, rfl, _, rfl, _, _, rfl, rfl, .inl ⟨by decide, by decide⟩, _, _, rfl, rfl, _, _, rfl, rfl, _, _, rfl, rfl, (by show (0 : Int) < _; decide), ?_⟩
  refine ⟨_, rfl, a, _, rfl, .inl hS, _, _, rfl, ?_⟩
  rw [List.length_map]
  refine ⟨_, rfl, by split <;> omega, by split <;> omega, ?_⟩
  refine for_range (fun j σ H' => H' = H ∧ ∃ (m : Int) (v : Option V), σ = [some (.ref a), some (.int k), some (.int x), some (.int m), v] ∧ 0 ≤ m ∧ m < 2147483647) ⟨rfl, _, none, rfl, Int.emod_nonneg _ (by decide), Int.emod_lt_of_pos _ (by decide)⟩ ?_ ?_
  · rintro j σ H' hj ⟨rfl, m, v, rfl, m0, m1⟩
    have hj' : j < ns.length := by split at hj <;> omega
    have hx : (ns.map V.int)[j]? = some (V.int ns[j]) := by rw [List.getElem?_map, List.getElem?_eq_getElem hj']; rfl
    refine ⟨_, rfl, _, _, rfl, rfl, ⟨by decide, by decide, by omega⟩, _, rfl, _, rfl, a, _, _, _, rfl, rfl, hS, at_of (by omega) hx, _, _, rfl, rfl, (by show (0 : Int) < _; decide), _, _, rfl, rfl, _, rfl, _, _, rfl, rfl, .inl ⟨by decide, by decide⟩, _, _, rfl, rfl, _, _, rfl, rfl, (by show (0 : Int) < _; decide), ?_⟩
    exact ⟨rfl, _, _, rfl, Int.emod_nonneg _ (by decide), Int.emod_lt_of_pos _ (by decide)⟩
  · rintro σ H' ⟨rfl, m, v, rfl, m0, m1⟩
    exact ⟨_, rfl, (by show 2 ≤ sizeLine; decide), fun p hp => kQ p m 1 hp (.inr ⟨by decide, by decide, m0, m1⟩)⟩
theorem cal__law_bag {P : Program} {w : World} {K : PySem.W.Frag} {mg : Str → Option Value} {base : Heap} (T : Top w K mg) : Callee P w K mg base CX0 2 "_law_bag" (sp__law_bag K) [] := by
  obtain ⟨fd, F, S⟩ := ok__law_bag (P := P) T
  exact ⟨fd, _, [], S base, T.g__law_bag, F.kp, F.bindsN (fun _ _ _ _ _ _ us hl => match us, hl with | [_, _], _ => rfl), .nil⟩

def sp__law_take : Sp := fun vs H Q _ => ∃ (b : Addr) (m : Int), vs = [.ref b, .int m] ∧ BagAt H b ∧ 0 < m ∧ m ≤ 1000000 ∧ ∀ (r : Int) (H' : Hp), 0 ≤ r → r < m → BagAt H' b → Keep [b] H H' → Q (.int r) H'
theorem ok__law_take {P : Program} {w : World} {K : PySem.W.Frag} {mg : Str → Option Value} (T : Top w K mg) : ∃ fd : FuncData, FunD K "_law_take" "_law_take" (defArgs st__law_take) (defBody st__law_take) (defScope st__law_take) (dd__law_take.dvs K) (dd__law_take.kws K) (He.ga K "_law_take") fd ∧ ∀ base : Heap, FnOk P w K mg base CX0 1 (He.ga K "_law_take") fd ["_law_bag_here", "_law_many"] sp__law_take := by
  obtain ⟨fd, F⟩ := T.f__law_take
  refine ⟨fd, F, fun base => F.ok sc__law_take (fun vs H Q E h => by obtain ⟨_, _, rfl, _⟩ := h; rfl) (fun cdv A outer s H vs Q E hr h => ⟨_, PSs.nox
 ((pss_cons (ps_if (pt_cmpR op_eq (pe_ix ix_list (pv 0) pe_int (fun _ _ => rfl)) pe_int (nomark _))
 (pss_cons (ps_set (i := 2) sc__law_take.nd rfl (Or.inl rfl) (pe_op op_mod (pe_ix ix_list (pv 0) pe_int (fun _ _ => rfl)) (pv 1)))
 (pss_cons (ps_asg (pe_op op_fdivW (pe_ix ix_list (pv 0) pe_int (fun _ _ => rfl)) (pv 1)) (pg_sub (pv 0) pe_int set_list))
 (pss_one (ps_ret (pv 2)))))
 pss_nil)
 (pss_cons (ps_asg (pe_op op_mod (pe_op op_add (pe_op op_add (pe_op op_pow (pe_ix ix_list (pv 0) pe_int (fun _ _ => rfl)) pe_int) (pe_op op_mul pe_int (pe_ix ix_list (pv 0) pe_int (fun _ _ => rfl)))) pe_int) pe_int) (pg_sub (pv 0) pe_int set_list))
 (pss_cons (ps_asg (pe_op op_add (pe_ix ix_list (pv 0) pe_int (fun _ _ => rfl)) pe_int) (pg_sub (pv 0) pe_int set_list))
 (pss_one (ps_ret (pe_op op_mod (pe_op op_fdivW (pe_op op_mod (pe_op op_mul (pe_ix ix_list (pv 0) pe_int (fun _ _ => rfl)) pe_int) pe_int) pe_int) (pv 1)))))))), ?_⟩)⟩
  obtain ⟨b, m, rfl, ⟨n, f, hb, B⟩, hm0, hm1, kQ⟩ := h
  refine ⟨_, rfl, b, _, _, _, rfl, rfl, SqL.of hb, rfl, rfl, _, rfl, ?_⟩
  refine iteB (fun c => ?_) (fun c => ?_)
  · have e : f = 0 := by simpa using c
    subst e
    have hn : 0 ≤ n ∧ n < 10 ^ 180 := by
      rcases B with ⟨_, h⟩ | ⟨h, _⟩
      · exact h
      · exact absurd rfl h
    refine ⟨_, rfl, b, _, _, _, rfl, rfl, SqL.of hb, rfl, _, rfl, _, _, rfl, rfl, hm0, ?_⟩
    refine ⟨_, rfl, b, _, _, _, rfl, rfl, SqL.of hb, rfl, _, rfl, _, _, rfl, rfl, wide_div (b := 30) hm0 (by omega) (by decide) (by decide), ?_⟩
    refine ⟨_, rfl, b, _, _, _, rfl, rfl, hb, rfl, ?_⟩
    refine ⟨_, rfl, ?_⟩
    have q0 : 0 ≤ n / m := Int.ediv_nonneg hn.1 (Int.le_of_lt hm0)
    have q1 : n / m ≤ n := Int.ediv_le_self m hn.1
    exact kQ _ _ (Int.emod_nonneg _ (by omega)) (Int.emod_lt_of_pos _ hm0) ⟨n / m, 0, upd_same, .inl ⟨rfl, q0, Int.lt_of_le_of_lt q1 hn.2⟩⟩ Keep.refl.upd
  · have e : f ≠ 0 := by simpa using c
    have hn : 0 < f ∧ 0 ≤ n ∧ n < 2147483647 := by
      rcases B with ⟨h, _⟩ | ⟨_, h⟩
      · exact absurd h e
      · exact h
    refine ⟨_, rfl, b, _, _, _, rfl, rfl, SqL.of hb, rfl, _, _, rfl, rfl, ⟨by decide, by decide, by omega⟩, _, rfl, b, _, _, _, rfl, rfl, SqL.of hb, rfl, _, _, rfl, rfl, .inl ⟨by decide, by decide⟩, _, _, rfl, rfl, _, _, rfl, rfl, _, _, rfl, rfl, (by show (0 : Int) < _; decide), ?_⟩
    dsimp only
    generalize hx : (n ^ _ + _ + _ : Int) % 2147483647 = x
    have x0 : 0 ≤ x := by rw [← hx]; exact Int.emod_nonneg _ (by decide)
    have x1 : x < 2147483647 := by rw [← hx]; exact Int.emod_lt_of_pos _ (by decide)
    clear hx
    refine ⟨_, rfl, b, _, _, _, rfl, rfl, hb, rfl, ?_⟩
    refine ⟨_, rfl, b, _, _, _, rfl, rfl, SqL.of upd_same, rfl, _, _, rfl, rfl, _, rfl, b, _, _, _, rfl, rfl, upd_same, rfl, ?_⟩
    rw [upd_upd]
    refine ⟨_, rfl, b, _, _, _, rfl, rfl, SqL.of upd_same, rfl, _, _, rfl, rfl, .inr ⟨by decide, by decide⟩, _, _, rfl, rfl, (by show (0 : Int) < _; decide), _, _, rfl, rfl, wide_div (b := 30) (by decide) (by decide) (by decide) (by decide), _, rfl, _, _, rfl, rfl, hm0, ?_⟩
    exact kQ _ _ (Int.emod_nonneg _ (by omega)) (Int.emod_lt_of_pos _ hm0) ⟨x, f + 1, upd_same, .inr ⟨by omega, by omega, x0, x1⟩⟩ Keep.refl.upd
theorem cal__law_take {P : Program} {w : World} {K : PySem.W.Frag} {mg : Str → Option Value} {base : Heap} (T : Top w K mg) : Callee P w K mg base CX0 1 "_law_take" sp__law_take [] := by
  obtain ⟨fd, F, S⟩ := ok__law_take (P := P) T
  exact ⟨fd, _, [], S base, T.g__law_take, F.kp, F.bindsN (fun _ _ _ _ _ _ us hl => match us, hl with | [_, _], _ => rfl), .nil⟩


end Z

namespace Z
open PySem PySem.Spec PyProof.Rows L2
/-! ### is_token, and the law's own -/
/-- what may be handed in -/
inductive Thing (H : Hp) : V → Prop
  | non : Thing H .non
  | bl (b : Bool) : Thing H (.bl b)
  | int (i : Int) : Thing H (.int i)
  | str (z : Str) (h : z.length ≤ 1000) : Thing H (.str z)
  | lst (p : Addr) (zs : List Str) (h : H p = some (.lst (zs.map V.str))) (hl : zs.length ≤ 2) : Thing H (.ref p)
  | tup (p : Addr) (z : Str) (h : H p = some (.tup [.str z])) : Thing H (.ref p)
def judged (f : List Nat → Bool) : V → Bool
  | .str z => f (cl z)
  | _ => false
theorem Thing.ty {K : PySem.W.Frag} {H : Hp} {v : V} (t : Thing H v) : (∃ z, v = .str z ∧ z.length ≤ 1000 ∧ TyX K H v (.type "str")) ∨ ∃ T : String, TyX K H v (.type T) ∧ kitB T "str" = some false ∧ ∀ f, judged f v = false := by
  cases t with
  | non => exact .inr ⟨"NoneType", .base .non, by decide +kernel, fun _ => rfl⟩
  | bl b => exact .inr ⟨"bool", .base (.bl b), by decide +kernel, fun _ => rfl⟩
  | int i => exact .inr ⟨"int", .base (.int i), by decide +kernel, fun _ => rfl⟩
  | str z h => exact .inl ⟨z, rfl, h, .base (.str z)⟩
  | lst p zs h hl => exact .inr ⟨"list", .base (.lst h), by decide +kernel, fun _ => rfl⟩
  | tup p z h => exact .inr ⟨"tuple", .base (.tup h), by decide +kernel, fun _ => rfl⟩
theorem ss : sizeLine = 16777216 := sizeLine_eq
def sp_is_token : Sp := fun vs H Q _ => ∃ (v : V), vs = [v] ∧ Thing H v ∧ Q (.bl (judged isTok v)) H
theorem one_nl : ("\n" : Str) = ⟨#[10]⟩ := by decide +kernel
theorem one_bl : (" " : Str) = ⟨#[32]⟩ := by decide +kernel
theorem nil_s : cl ("" : Str) = [] := by decide +kernel
theorem V_one {a b : Nat} : decide (V.str ⟨#[a]⟩ = V.str ⟨#[b]⟩) = decide (a = b) := by
  rw [decide_eq_decide, V.str.injEq, str_eq]; simp
theorem ok_is_token {P : Program} {w : World} {K : PySem.W.Frag} {mg : Str → Option Value} (T : Top w K mg) : ∃ fd : FuncData, FunD K "is_token" "is_token" (defArgs st_is_token) (defBody st_is_token) (defScope st_is_token) (dd_is_token.dvs K) (dd_is_token.kws K) (He.ga K "is_token") fd ∧ ∀ base : Heap, FnOk P w K mg base CX0 3 (He.ga K "is_token") fd ["thing"] sp_is_token := by
  obtain ⟨fd, F⟩ := T.f_is_token
  refine ⟨fd, F, fun base => F.ok sc_is_token (fun vs H Q E h => by obtain ⟨_, rfl, _⟩ := h; rfl) (fun cdv A outer s H vs Q E hr h => ⟨_, PSs.nox
 ((pss_cons (ps_if (PW.pt (pw_or (pt_not (pt_val (pe_callB call_isi (by rfl) T.n_isinstance (by decide +kernel) (pa_cons (pv 0) (pa_cons (pe_bltn (v := .ty "str") (by rfl) T.n_str (by decide +kernel) rfl) pa_nil))))) (pw_or (pt_cmpR op_eq (pv 0) pe_str (nomark _)) (pw_or (pt_cmpR op_eq (pe_ix ix_str (pv 0) pe_int (fun _ _ => rfl)) pe_str (nomark _)) (pw_or1 (pt_cmpR op_in_sign pe_str (pv 0) (by rfl)))))))
 (pss_one (ps_ret pe_bl))
 pss_nil)
 (pss_one (ps_ret (pe_cmpR op_eq (pc (cal_token_end T) hr (by decide) pass0 rfl (pa_cons (pv 0) (pa_cons pe_int pa_nil))) (pe_callB call_len_str (by rfl) T.n_len (by decide +kernel) (pa_cons (pv 0) pa_nil)) (nomark _)))))), ?_⟩)⟩
  obtain ⟨v, rfl, t, kQ⟩ := h
  rcases t.ty (K := K) with ⟨z, rfl, hz, tx⟩ | ⟨Tn, tx, kb, jf⟩
  · refine ⟨_, rfl, _, .ty "str", _, _, _, rfl, .ty "str", tx, kit_ty (r := true) (by decide +kernel), _, rfl, ?_⟩
    refine iteF ⟨_, rfl, rfl, _, rfl, ?_⟩
    have hcl := cl_len z
    have hjd : judged isTok (V.str z) = isTok (cl z) := rfl
    rw [hjd] at kQ
    refine iteD (fun c => ?_) (fun c => ?_)
    · have e : cl z = [] := by have := V.str.inj c; rw [this]; exact nil_s
      rw [e] at kQ
      exact kQ
    · obtain ⟨a, r, e⟩ : ∃ a r, cl z = a :: r := by
        cases q : cl z with
        | nil => exact absurd (congrArg V.str (str_eq.mpr (q.trans nil_s.symm))) c
        | cons a r => exact ⟨a, r, rfl⟩
      have hx : (cl z)[0]? = some a := by rw [e]; rfl
      refine ⟨_, rfl, z, _, _, rfl, rfl, by rw [ss]; omega, atI_nat (j := 0) hx, rfl, _, rfl, ?_⟩
      rw [one_bl, V_one]
      have hq : isTok (cl z) = (decide (a ≠ 32) && (decide (10 ∉ a :: r) && decide (tokLen (a :: r) = some (r.length + 1)))) := by rw [e]; rfl
      rw [hq] at kQ
      refine iteD (fun c2 => ?_) (fun c2 => ?_)
      · rw [decide_eq_false (by simp [c2]), Bool.false_and] at kQ; exact kQ
      · rw [decide_eq_true c2, Bool.true_and] at kQ
        refine ⟨_, rfl, _, _, congrArg V.str one_nl, rfl, _, rfl, ?_⟩
        show if decide (10 ∈ cl z) = true then _ else _
        rw [e]
        refine iteD (fun c3 => ?_) (fun c3 => ?_)
        · rw [decide_eq_false (by simp [c3]), Bool.false_and] at kQ; exact kQ
        · rw [decide_eq_true c3, Bool.true_and] at kQ
          have hl : z.length = r.length + 1 := by rw [← hcl, e]; rfl
          refine ⟨_, rfl, z, 0, rfl, by rw [ss]; omega, by omega, ?_⟩
          rw [List.drop_zero, e]
          refine ⟨_, rfl, z, rfl, by rw [ss]; omega, ?_⟩
          have hs : scal (ofTok 0 (tokLen (a :: r))) (V.int z.length) = true ∧ decide (ofTok 0 (tokLen (a :: r)) = V.int z.length) = decide (tokLen (a :: r) = some (r.length + 1)) := by
            cases q : tokLen (a :: r) with
            | none => exact ⟨rfl, by rw [decide_eq_decide]; simp [ofTok]⟩
            | some n => exact ⟨rfl, by rw [decide_eq_decide]; simp only [ofTok, V.int.injEq, Option.some.injEq]; omega⟩
          refine ⟨hs.1, ?_⟩
          show Q (.bl (decide (ofTok 0 (tokLen (a :: r)) = V.int z.length))) H
          rw [hs.2]; exact kQ
  · refine ⟨_, rfl, _, .ty "str", _, _, _, rfl, .ty "str", tx, kit_ty kb, _, rfl, ?_⟩
    rw [jf] at kQ
    exact iteT kQ
theorem cal_is_token {P : Program} {w : World} {K : PySem.W.Frag} {mg : Str → Option Value} {base : Heap} (T : Top w K mg) : Callee P w K mg base CX0 3 "is_token" sp_is_token [] := by
  obtain ⟨fd, F, S⟩ := ok_is_token (P := P) T
  exact ⟨fd, _, [], S base, T.g_is_token, F.kp, F.bindsN (fun _ _ _ _ _ _ us hl => match us, hl with | [_], _ => rfl), .nil⟩

/-- a text of at most n signs comes, the bag stands -/
def spTxt (n : Nat) : Sp := fun vs H Q _ => ∃ (b : Addr), vs = [.ref b] ∧ BagAt H b ∧ ∀ (z : Str) (H' : Hp), z.length ≤ n → BagAt H' b → Keep [b] H H' → Q (.str z) H'
def sp__law_word : Sp := fun vs H Q _ => ∃ (b : Addr) (m : Int), vs = [.ref b, .int m] ∧ BagAt H b ∧ 0 < m ∧ m ≤ 62 ∧ ∀ (z : Str) (H' : Hp), z.length ≤ 8 → BagAt H' b → Keep [b] H H' → Q (.str z) H'
def sp__law_token : Sp := spTxt 8
theorem ix_s {z : Str} {r : Int} (h0 : 0 ≤ r) (h1 : r < z.length) : ∃ c, atI z.cps.toList r = some c := by
  have h : r.toNat < (cl z).length := by rw [cl_len]; omega
  exact ⟨_, at_of2 h0 (List.getElem?_eq_getElem h)⟩
theorem len1 (c : Nat) : (⟨#[c]⟩ : Str).length = 1 := rfl
theorem ok__law_word {P : Program} {w : World} {K : PySem.W.Frag} {mg : Str → Option Value} (T : Top w K mg) : ∃ fd : FuncData, FunD K "_law_word" "_law_word" (defArgs st__law_word) (defBody st__law_word) (defScope st__law_word) (dd__law_word.dvs K) (dd__law_word.kws K) (He.ga K "_law_word") fd ∧ ∀ base : Heap, FnOk P w K mg base CX0 2 (He.ga K "_law_word") fd ["_law_bag_here", "_law_first"] sp__law_word := by
  obtain ⟨fd, F⟩ := T.f__law_word
  refine ⟨fd, F, fun base => F.ok sc__law_word (fun vs H Q E h => by obtain ⟨_, _, rfl, _⟩ := h; rfl) (fun cdv A outer s H vs Q E hr h => ⟨_, PSs.nox
 ((pss_cons (ps_set (i := 2) sc__law_word.nd rfl (Or.inl rfl) pe_str)
 (pss_cons (ps_set (i := 3) sc__law_word.nd rfl (Or.inl rfl) (pe_ix ix_str (pv 2) (pc (cal__law_take T) hr (by decide) pass0 rfl (pa_cons (pv 0) (pa_cons (pv 1) pa_nil))) (fun _ _ => rfl)))
 (pss_cons (ps_for PassesOwn.never rfl (pi_range1 rfl T.n_range (pa_cons (pc (cal__law_take T) hr (by decide) pass0 rfl (pa_cons (pv 0) (pa_cons pe_int pa_nil))) pa_nil)) (pg_name (i := 4) sc__law_word.nd rfl (Or.inl rfl))
 (pss_one (ps_set (i := 3) sc__law_word.nd rfl (Or.inl rfl) (pe_op op_add_str (pv 3) (pe_ix ix_str (pv 2) (pc (cal__law_take T) hr (by decide) pass0 rfl (pa_cons (pv 0) (pa_cons pe_int pa_nil))) (fun _ _ => rfl))))))
 (pss_one (ps_ret (pv 3))))))), ?_⟩)⟩
  obtain ⟨b, m, rfl, B, h0, h1, kQ⟩ := h
  refine ⟨_, rfl, _, rfl, _, rfl, b, m, rfl, B, h0, by omega, fun r H1 r0 r1 B1 k1 => ?_⟩
  obtain ⟨c, hc⟩ := ix_s (z := ("abcdefghijklmnopqrstuvwxyzABCDEFGHIJKLMNOPQRSTUVWXYZ0123456789" : Str)) r0 (by rw [show Str.length _ = 62 by decide +kernel]; omega)
  refine ⟨_, _, _, rfl, rfl, by rw [ss, show Str.length _ = 62 by decide +kernel]; omega, hc, ?_⟩
  refine ⟨_, rfl, b, 8, rfl, B1, by decide, by decide, fun n H2 n0 n1 B2 k2 => ⟨_, rfl, by omega, by omega, ?_⟩⟩
  refine for_range (fun i σ H' => ∃ (z : Str) (v : Option V), σ = [some (.ref b), some (.int m), some (.str ("abcdefghijklmnopqrstuvwxyzABCDEFGHIJKLMNOPQRSTUVWXYZ0123456789" : Str)), some (.str z), v] ∧ z.length = i + 1 ∧ BagAt H' b ∧ Keep [b] H H') ⟨⟨#[c]⟩, none, rfl, rfl, B2, k1.trans k2⟩ ?_ ?_
  · rintro i σ H' hi ⟨z, v, rfl, hz, Bi, ki⟩
    refine ⟨_, rfl, _, rfl, _, rfl, b, 62, rfl, Bi, by decide, by decide, fun r H3 r0 r1 B3 k3 => ?_⟩
    obtain ⟨c, hc⟩ := ix_s (z := ("abcdefghijklmnopqrstuvwxyzABCDEFGHIJKLMNOPQRSTUVWXYZ0123456789" : Str)) r0 (by rw [show Str.length _ = 62 by decide +kernel]; omega)
    refine ⟨_, _, _, rfl, rfl, by rw [ss, show Str.length _ = 62 by decide +kernel]; omega, hc, _, _, rfl, rfl, by rw [ss, len1]; omega, ?_⟩
    exact ⟨_, _, rfl, by rw [len_append, len1]; omega, B3, ki.trans k3⟩
  · rintro σ H' ⟨z, v, rfl, hz, Bi, ki⟩
    exact ⟨_, rfl, kQ z H' (by omega) Bi ki⟩
theorem cal__law_word {P : Program} {w : World} {K : PySem.W.Frag} {mg : Str → Option Value} {base : Heap} (T : Top w K mg) : Callee P w K mg base CX0 2 "_law_word" sp__law_word [] := by
  obtain ⟨fd, F, S⟩ := ok__law_word (P := P) T
  exact ⟨fd, _, [], S base, T.g__law_word, F.kp, F.bindsN (fun _ _ _ _ _ _ us hl => match us, hl with | [_, _], _ => rfl), .nil⟩

theorem l34 : ("!#$&'()*+,-./:;<=>?\x40[\\]^_`{|}~" : Str).length = 30 := by decide +kernel
theorem ok__law_token {P : Program} {w : World} {K : PySem.W.Frag} {mg : Str → Option Value} (T : Top w K mg) : ∃ fd : FuncData, FunD K "_law_token" "_law_token" (defArgs st__law_token) (defBody st__law_token) (defScope st__law_token) (dd__law_token.dvs K) (dd__law_token.kws K) (He.ga K "_law_token") fd ∧ ∀ base : Heap, FnOk P w K mg base CX0 3 (He.ga K "_law_token") fd ["_law_bag_here"] sp__law_token := by
  obtain ⟨fd, F⟩ := T.f__law_token
  refine ⟨fd, F, fun base => F.ok sc__law_token (fun vs H Q E h => by obtain ⟨_, rfl, _⟩ := h; rfl) (fun cdv A outer s H vs Q E hr h => ⟨_, PSs.nox
 ((pss_cons (ps_set (i := 1) sc__law_token.nd rfl (Or.inl rfl) pe_str)
 (pss_cons (ps_set (i := 2) sc__law_token.nd rfl (Or.inl rfl) (pc (cal__law_take T) hr (by decide) pass0 rfl (pa_cons (pv 0) (pa_cons pe_int pa_nil))))
 (pss_cons (ps_if (pt_cmpR op_lt (pv 2) pe_int (nomark _))
 (pss_one (ps_ret (pc (cal__law_word T) hr (by decide) pass0 rfl (pa_cons (pv 0) (pa_cons (pe_ix ix_list (pe_lst (pa_cons pe_int (pa_cons pe_int pa_nil))) (pv 2) (fun _ _ => rfl)) pa_nil)))))
 pss_nil)
 (pss_cons (ps_if (pt_cmpR op_eq (pv 2) pe_int (nomark _))
 (pss_cons (ps_set (i := 3) sc__law_token.nd rfl (Or.inl rfl) pe_str)
 (pss_cons (ps_for PassesOwn.never rfl (pi_range1 rfl T.n_range (pa_cons (pc (cal__law_take T) hr (by decide) pass0 rfl (pa_cons (pv 0) (pa_cons pe_int pa_nil))) pa_nil)) (pg_name (i := 4) sc__law_token.nd rfl (Or.inl rfl))
 (pss_one (ps_set (i := 3) sc__law_token.nd rfl (Or.inl rfl) (pe_op op_add_str (pv 3) (pe_ix ix_str (pe_op op_add_str (pv 1) pe_str) (pc (cal__law_take T) hr (by decide) pass0 rfl (pa_cons (pv 0) (pa_cons pe_int pa_nil))) (fun _ _ => rfl))))))
 (pss_one (ps_ret (pe_op op_add_str (pe_op op_add_str pe_str (pv 3)) pe_str)))))
 pss_nil)
 (pss_cons (ps_if (pt_cmpR op_eq (pv 2) pe_int (nomark _))
 (pss_one (ps_ret (pe_ix ix_list (pe_lst (pa_cons pe_str (pa_cons pe_str (pa_cons pe_str (pa_cons pe_str (pa_cons pe_str (pa_cons pe_str (pa_cons pe_str pa_nil)))))))) (pc (cal__law_take T) hr (by decide) pass0 rfl (pa_cons (pv 0) (pa_cons pe_int pa_nil))) (fun _ _ => rfl))))
 pss_nil)
 (pss_one (ps_ret (pe_ix ix_str (pv 1) (pc (cal__law_take T) hr (by decide) pass0 rfl (pa_cons (pv 0) (pa_cons pe_int pa_nil))) (fun _ _ => rfl)))))))))), ?_⟩)⟩
  obtain ⟨b, rfl, B, kQ⟩ := h
  refine ⟨_, rfl, b, 6, rfl, B, by decide, by decide, fun w H1 w0 w1 B1 k1 => ?_⟩
  refine ⟨_, rfl, _, _, rfl, rfl, _, rfl, iteD (fun c => ?_) (fun c => ?_)⟩
  · refine ⟨_, rfl, (by show 2 ≤ sizeLine; decide), fun p hp => ⟨_, rfl, ?_⟩⟩
    obtain ⟨m, hm, m0, m1⟩ : ∃ m : Int, atI [V.int 52, V.int 62] w = some (V.int m) ∧ 0 < m ∧ m ≤ 62 := by
      rcases (show w = 0 ∨ w = 1 by omega) with rfl | rfl
      · exact ⟨52, rfl, by decide, by decide⟩
      · exact ⟨62, rfl, by decide, by decide⟩
    refine ⟨p, _, _, _, rfl, rfl, SqL.of upd_same, hm, b, m, rfl, B1.new hp, m0, m1, fun z H2 hz B2 k2 => ?_⟩
    exact kQ z H2 hz B2 (k1.trans ((Keep.refl.new hp).trans k2))
  refine ⟨_, rfl, rfl, _, rfl, iteD (fun c2 => ?_) (fun c2 => ?_)⟩
  · refine ⟨_, rfl, b, 5, rfl, B1, by decide, by decide, fun n H2 n0 n1 B2 k2 => ⟨_, rfl, by omega, by omega, ?_⟩⟩
    refine for_range (fun i σ H' => ∃ (z : Str) (v : Option V), σ = [some (.ref b), some (.str ("!#$&'()*+,-./:;<=>?\x40[\\]^_`{|}~" : Str)), some (.int w), some (.str z), v] ∧ z.length = i ∧ BagAt H' b ∧ Keep [b] H H') ⟨("" : Str), none, rfl, by decide +kernel, B2, k1.trans k2⟩ ?_ ?_
    · rintro i σ H' hi ⟨z, v, rfl, hz, Bi, ki⟩
      have hl : (("!#$&'()*+,-./:;<=>?\x40[\\]^_`{|}~" : Str) ++ (" aZ09" : Str)).length = 35 := by decide +kernel
      refine ⟨_, rfl, _, rfl, _, _, rfl, rfl, by rw [ss, l34, show (" aZ09" : Str).length = 5 by decide +kernel]; decide, _, rfl, b, 35, rfl, Bi, by decide, by decide, fun r H3 r0 r1 B3 k3 => ?_⟩
      obtain ⟨c, hc⟩ := ix_s (z := ("!#$&'()*+,-./:;<=>?\x40[\\]^_`{|}~" : Str) ++ (" aZ09" : Str)) r0 (by rw [hl]; omega)
      refine ⟨_, _, _, rfl, rfl, by rw [ss, hl]; decide, hc, _, _, rfl, rfl, by rw [ss, len1]; omega, ?_⟩
      exact ⟨_, _, rfl, by rw [len_append, len1]; omega, B3, ki.trans k3⟩
    · rintro σ H' ⟨z, v, rfl, hz, Bi, ki⟩
      have hq : ("\"" : Str).length = 1 := by decide +kernel
      refine ⟨_, rfl, _, _, rfl, rfl, by rw [ss, hq]; omega, _, _, rfl, rfl, by rw [ss, len_append, hq]; omega, ?_⟩
      exact kQ _ H' (by rw [len_append, len_append, hq]; omega) Bi ki
  refine ⟨_, rfl, rfl, _, rfl, iteD (fun c3 => ?_) (fun c3 => ?_)⟩
  · refine ⟨(by show 7 ≤ sizeLine; decide), fun p hp => ⟨_, rfl, b, 7, rfl, B1.new hp, by decide, by decide, fun r H2 r0 r1 B2 k2 => ?_⟩⟩
    have hpb := B1.ne hp
    have hp2 := k2.one upd_same (Ne.symm hpb)
    obtain ⟨z, hz, hl⟩ : ∃ z : Str, atI [V.str "==", V.str "!=", V.str "<=", V.str ">=", V.str "&&", V.str "||", V.str "->"] r = some (V.str z) ∧ z.length = 2 := by
      rcases (show r = 0 ∨ r = 1 ∨ r = 2 ∨ r = 3 ∨ r = 4 ∨ r = 5 ∨ r = 6 by omega) with rfl | rfl | rfl | rfl | rfl | rfl | rfl
      all_goals exact ⟨_, rfl, by decide +kernel⟩
    refine ⟨p, _, _, _, rfl, rfl, SqL.of hp2, hz, ?_⟩
    exact kQ z H2 (by omega) B2 (k1.trans ((Keep.refl.new hp).trans k2))
  · refine ⟨_, rfl, _, rfl, b, 30, rfl, B1, by decide, by decide, fun r H2 r0 r1 B2 k2 => ?_⟩
    obtain ⟨c, hc⟩ := ix_s (z := ("!#$&'()*+,-./:;<=>?\x40[\\]^_`{|}~" : Str)) r0 (by rw [l34]; omega)
    refine ⟨_, _, _, rfl, rfl, by rw [ss, l34]; decide, hc, ?_⟩
    exact kQ _ H2 (by rw [len1]; omega) B2 (k1.trans k2)
theorem cal__law_token {P : Program} {w : World} {K : PySem.W.Frag} {mg : Str → Option Value} {base : Heap} (T : Top w K mg) : Callee P w K mg base CX0 3 "_law_token" sp__law_token [] := by
  obtain ⟨fd, F, S⟩ := ok__law_token (P := P) T
  exact ⟨fd, _, [], S base, T.g__law_token, F.kp, F.bindsN (fun _ _ _ _ _ _ us hl => match us, hl with | [_], _ => rfl), .nil⟩

def sp__law_thing : Sp := fun vs H Q _ => ∃ (b : Addr), vs = [.ref b] ∧ BagAt H b ∧ ∀ (v : V) (H' : Hp), Thing H' v → BagAt H' b → Keep [b] H H' → Q v H'
theorem Thing.new {H : Hp} {p : Addr} {o : HO} {v : V} (t : Thing H v) (hp : H p = none) : Thing (upd H p o) v := by
  cases t with
  | non => exact .non
  | bl b => exact .bl b
  | int i => exact .int i
  | str z h => exact .str z h
  | lst q zs h hl => exact .lst q zs (upd_new hp h) hl
  | tup q z h => exact .tup q z (upd_new hp h)
theorem Thing.keep {H H' : Hp} {b : Addr} {v : V} (t : Thing H v) (B : BagAt H b) (k : Keep [b] H H') : Thing H' v := by
  obtain ⟨n, f, e, _⟩ := B
  cases t with
  | non => exact .non
  | bl b => exact .bl b
  | int i => exact .int i
  | str z h => exact .str z h
  | lst q zs h hl => exact .lst q zs (k.one h (ne_of h e (by intro z; cases zs <;> simp at z))) hl
  | tup q z h => exact .tup q z (k.one h (ne_of h e (by intro z; cases z)))
theorem Thing.same {H H' : Hp} {v : V} (t : Thing H v) (k : Same H H') : Thing H' v := by
  cases t with
  | non => exact .non
  | bl b => exact .bl b
  | int i => exact .int i
  | str z h => exact .str z h
  | lst q zs h hl => exact .lst q zs (k _ _ h) hl
  | tup q z h => exact .tup q z (k _ _ h)
theorem BagAt.same {H H' : Hp} {b : Addr} (h : BagAt H b) (k : Same H H') : BagAt H' b := by
  obtain ⟨n, f, e, B⟩ := h
  exact ⟨n, f, k _ _ e, B⟩
theorem at_all {P : V → Prop} {xs : List V} {r : Int} (h0 : 0 ≤ r) (h1 : r < xs.length) (h : ∀ v ∈ xs, P v) : ∃ v, atI xs r = some v ∧ P v := by
  have hl : r.toNat < xs.length := by omega
  exact ⟨_, at_of2 h0 (List.getElem?_eq_getElem hl), h _ (List.getElem_mem hl)⟩
theorem str_len0 : ("" : Str).length = 0 := by decide +kernel
theorem str_len_b : (" " : Str).length = 1 := by decide +kernel
theorem str_len_n : ("\n" : Str).length = 1 := by decide +kernel
theorem str_len_q : ("\"" : Str).length = 1 := by decide +kernel
theorem line_of {n : Nat} (h : n ≤ 16777216) : n ≤ sizeLine := by rw [ss]; exact h
theorem ok__law_thing {P : Program} {w : World} {K : PySem.W.Frag} {mg : Str → Option Value} (T : Top w K mg) : ∃ fd : FuncData, FunD K "_law_thing" "_law_thing" (defArgs st__law_thing) (defBody st__law_thing) (defScope st__law_thing) (dd__law_thing.dvs K) (dd__law_thing.kws K) (He.ga K "_law_thing") fd ∧ ∀ base : Heap, FnOk P w K mg base CX0 4 (He.ga K "_law_thing") fd ["_law_bag_here"] sp__law_thing := by
  obtain ⟨fd, F⟩ := T.f__law_thing
  refine ⟨fd, F, fun base => F.ok sc__law_thing (fun vs H Q E h => by obtain ⟨_, rfl, _⟩ := h; rfl) (fun cdv A outer s H vs Q E hr h => ⟨_, PSs.nox
 ((pss_cons (ps_par (i := 1) (j := 2) rfl sc__law_thing.nd rfl rfl (by decide) rfl rfl (pa_cons (pc (cal__law_token T) hr (by decide) pass0 rfl (pa_cons (pv 0) pa_nil)) (pa_cons (pc (cal__law_token T) hr (by decide) pass0 rfl (pa_cons (pv 0) pa_nil)) pa_nil)) (by rfl))
 (pss_cons (ps_set (i := 3) sc__law_thing.nd rfl (Or.inl rfl) (pc (cal__law_take T) hr (by decide) pass0 rfl (pa_cons (pv 0) (pa_cons pe_int pa_nil))))
 (pss_cons (ps_set (i := 4) sc__law_thing.nd rfl (Or.inl rfl) (pc (cal__law_take T) hr (by decide) pass0 rfl (pa_cons (pv 0) (pa_cons (pe_op op_add (pe_callB call_len_str (by rfl) T.n_len (by decide +kernel) (pa_cons (pv 1) pa_nil)) pe_int) pa_nil))))
 (pss_cons (ps_set (i := 5) sc__law_thing.nd rfl (Or.inl rfl) (pe_ix ix_list (pe_lst (pa_cons pe_non (pa_cons pe_bl (pa_cons pe_int (pa_cons (pe_lst (pa_cons (pv 1) pa_nil)) (pa_cons (pe_tup (pa_cons (pv 1) pa_nil)) (pa_cons pe_str (pa_cons pe_str (pa_cons pe_str pa_nil))))))))) (pc (cal__law_take T) hr (by decide) pass0 rfl (pa_cons (pv 0) (pa_cons pe_int pa_nil))) (fun _ _ => rfl)))
 (pss_cons (ps_set (i := 6) sc__law_thing.nd rfl (Or.inl rfl) (pe_lst (pa_cons (pv 1) (pa_cons (pv 1) (pa_cons (pv 1) (pa_cons (pe_op op_add_str (pv 1) (pv 2)) (pa_cons (pe_op op_add_str (pv 1) (pv 2)) (pa_cons (pe_op op_add_str (pe_op op_add_str (pv 1) pe_str) (pv 2)) (pa_cons (pe_op op_add_str pe_str (pv 1)) (pa_cons (pe_op op_add_str (pv 1) pe_str) (pa_cons (pv 5) pa_nil)))))))))))
 (pss_cons (ps_set (i := 6) sc__law_thing.nd rfl (Or.inl rfl) (pe_op op_cat (pv 6) (pe_lst (pa_cons (pe_op op_add_str (pe_op op_add_str (pe_slice sl_str (pv 1) po_none (po_some (pv 4))) pe_str) (pe_slice sl_str (pv 1) (po_some (pv 4)) po_none)) (pa_cons (pe_slice sl_str (pv 1) (po_some pe_int) po_none) (pa_cons (pe_slice sl_str (pv 1) po_none (po_some (pe_un un_neg pe_int))) (pa_cons (pe_op op_add_str (pe_op op_add_str (pe_slice sl_str (pv 1) po_none (po_some (pv 4))) pe_str) (pe_slice sl_str (pv 1) (po_some (pv 4)) po_none)) (pa_cons (pe_op op_add_str (pv 1) (pe_slice sl_str (pv 1) po_none (po_some pe_int))) pa_nil))))))))
 (pss_cons (ps_set (i := 6) sc__law_thing.nd rfl (Or.inl rfl) (pe_op op_cat (pv 6) (pe_lst (pa_cons (pe_lst (pa_cons (pv 1) (pa_cons (pv 2) pa_nil))) (pa_cons (pe_revS (pv 1)) pa_nil)))))
 (pss_one (ps_ret (pe_ix ix_list (pv 6) (pv 3) (fun _ _ => rfl)))))))))))), ?_⟩)⟩
  obtain ⟨b, rfl, B, kQ⟩ := h
  refine ⟨_, rfl, b, rfl, B, fun one H1 h1 B1 k1 => ⟨_, rfl, b, rfl, B1, fun other H2 h2 B2 k2 => ⟨_, _, rfl, ?_⟩⟩⟩
  refine ⟨_, rfl, b, 16, rfl, B2, by decide, by decide, fun w H3 w0 w1 B3 k3 => ?_⟩
  refine ⟨_, rfl, _, rfl, _, rfl, line_of (by omega), _, _, rfl, rfl, b, _, rfl, B3, by omega, by omega, fun at_ H4 a0 a1 B4 k4 => ?_⟩
  -- the odd one
  refine ⟨_, rfl, (by show 1 ≤ sizeLine; decide), fun p1 hp1 => ⟨_, rfl, (by show 1 ≤ sizeLine; decide), fun p2 hp2 => ⟨(by show 8 ≤ sizeLine; decide), fun p3 hp3 => ?_⟩⟩⟩
  have B5 := ((B4.new (o := .lst [.str one]) hp1).new (o := .tup [.str one]) hp2).new (o := .lst [.non, .bl true, .int 7, .ref p1, .ref p2, .str "", .str " ", .str "\n"]) hp3
  have t1 : Thing (upd (upd (upd H4 p1 (.lst [.str one])) p2 (.tup [.str one])) p3 (.lst [.non, .bl true, .int 7, .ref p1, .ref p2, .str "", .str " ", .str "\n"])) (.ref p1) := .lst p1 [one] (upd_new hp3 (upd_new hp2 upd_same)) (by simp)
  have t2 : Thing (upd (upd (upd H4 p1 (.lst [.str one])) p2 (.tup [.str one])) p3 (.lst [.non, .bl true, .int 7, .ref p1, .ref p2, .str "", .str " ", .str "\n"])) (.ref p2) := .tup p2 one (upd_new hp3 upd_same)
  have hb3 := B4.new (o := .lst [.str one]) hp1 |>.new (o := .tup [.str one]) hp2 |>.ne hp3
  have kk : Keep [b] H (upd (upd (upd H4 p1 (.lst [.str one])) p2 (.tup [.str one])) p3 (.lst [.non, .bl true, .int 7, .ref p1, .ref p2, .str "", .str " ", .str "\n"])) := ((((((k1.trans k2).trans k3).trans k4).new hp1).new hp2).new hp3)
  have e3 : (upd (upd (upd H4 p1 (.lst [.str one])) p2 (.tup [.str one])) p3 (.lst [.non, .bl true, .int 7, .ref p1, .ref p2, .str "", .str " ", .str "\n"])) p3 = some (.lst [.non, .bl true, .int 7, .ref p1, .ref p2, .str "", .str " ", .str "\n"]) := upd_same
  generalize (upd (upd (upd H4 p1 (.lst [.str one])) p2 (.tup [.str one])) p3 (.lst [.non, .bl true, .int 7, .ref p1, .ref p2, .str "", .str " ", .str "\n"])) = H5 at *
  refine ⟨_, rfl, b, 8, rfl, B5, by decide, by decide, fun r H6 r0 r1 B6 k6 => ?_⟩
  have e6 := k6.one e3 (Ne.symm hb3)
  obtain ⟨odd, ho, to⟩ := at_all (P := Thing H6) (xs := [.non, .bl true, .int 7, .ref p1, .ref p2, .str "", .str " ", .str "\n"]) r0 (by simpa using r1) (by
    intro v hv
    simp only [List.mem_cons, List.not_mem_nil, or_false] at hv
    rcases hv with rfl | rfl | rfl | rfl | rfl | rfl | rfl | rfl
    · exact .non
    · exact .bl _
    · exact .int _
    · exact t1.keep B5 k6
    · exact t2.keep B5 k6
    · exact .str _ (by rw [str_len0]; decide)
    · exact .str _ (by rw [str_len_b]; decide)
    · exact .str _ (by rw [str_len_n]; decide))
  refine ⟨p3, _, _, _, rfl, rfl, SqL.of e6, ho, ?_⟩
  -- the nine
  have la : ∀ (x y : Str), (x ++ y).length = x.length + y.length := len_append
  refine ⟨_, rfl, _, rfl, _, rfl, _, rfl, _, rfl, _, _, rfl, rfl, line_of (by omega), _, rfl, _, rfl, _, _, rfl, rfl, line_of (by omega), _, rfl, _, _, rfl, rfl, line_of (by rw [str_len_b]; omega), _, rfl, _, _, rfl, rfl, line_of (by rw [la, str_len_b]; omega), _, rfl, _, _, rfl, rfl, line_of (by rw [str_len_b]; omega), _, rfl, _, _, rfl, rfl, line_of (by rw [str_len_b]; omega), _, rfl, (by show 9 ≤ sizeLine; decide), fun p4 hp4 => ?_⟩
  have al : ∀ v ∈ [V.str one, .str one, .str one, .str (one ++ other), .str (one ++ other), .str (one ++ " " ++ other), .str (" " ++ one), .str (one ++ " "), odd], Thing H6 v := by
    intro v hv
    simp only [List.mem_cons, List.not_mem_nil, or_false] at hv
    rcases hv with rfl | rfl | rfl | rfl | rfl | rfl | rfl | rfl | rfl
    all_goals first | exact to | exact .str _ (by omega) | exact .str _ (by simp only [la, str_len_b]; omega)
  have B7 := B6.new (o := .lst [V.str one, .str one, .str one, .str (one ++ other), .str (one ++ other), .str (one ++ " " ++ other), .str (" " ++ one), .str (one ++ " "), odd]) hp4
  have al7 : ∀ v ∈ [V.str one, .str one, .str one, .str (one ++ other), .str (one ++ other), .str (one ++ " " ++ other), .str (" " ++ one), .str (one ++ " "), odd], Thing (upd H6 p4 (.lst [V.str one, .str one, .str one, .str (one ++ other), .str (one ++ other), .str (one ++ " " ++ other), .str (" " ++ one), .str (one ++ " "), odd])) v := fun v hv => (al v hv).new hp4
  have k7 := (kk.trans k6).new (o := .lst [V.str one, .str one, .str one, .str (one ++ other), .str (one ++ other), .str (one ++ " " ++ other), .str (" " ++ one), .str (one ++ " "), odd]) hp4
  have e7 : (upd H6 p4 (.lst [V.str one, .str one, .str one, .str (one ++ other), .str (one ++ other), .str (one ++ " " ++ other), .str (" " ++ one), .str (one ++ " "), odd])) p4 = _ := upd_same
  have hb4 := B6.ne hp4
  have lc : ∀ (x : Str) lo hi, (cutS x lo hi).length ≤ x.length := fun x lo hi => cutS_length x lo hi
  generalize hN : [V.str one, .str one, .str one, .str (one ++ other), .str (one ++ other), .str (one ++ " " ++ other), .str (" " ++ one), .str (one ++ " "), odd] = nine at *
  have hn : nine.length = 9 := by rw [← hN]; rfl
  generalize (upd H6 p4 (.lst nine)) = H7 at *
  refine ⟨_, rfl, _, rfl, _, rfl, _, rfl, _, rfl, line_of (by omega), _, _, rfl, rfl, line_of (by have := lc one none (some at_); rw [str_len_q]; omega), _, rfl, _, rfl, _, rfl, _, rfl, line_of (by omega), _, _, rfl, rfl, line_of (by have := lc one none (some at_); have := lc one (some at_) none; rw [la, str_len_q]; omega), ?_⟩
  refine ⟨_, rfl, _, rfl, _, rfl, line_of (by omega), _, rfl, _, rfl, _, rfl, _, rfl, line_of (by omega), ?_⟩
  refine ⟨_, rfl, _, rfl, _, rfl, _, rfl, line_of (by omega), _, _, rfl, rfl, line_of (by have := lc one none (some at_); rw [str_len_n]; omega), _, rfl, _, rfl, _, rfl, _, rfl, line_of (by omega), _, _, rfl, rfl, line_of (by have := lc one none (some at_); have := lc one (some at_) none; rw [la, str_len_n]; omega), ?_⟩
  refine ⟨_, rfl, _, rfl, _, rfl, _, rfl, line_of (by omega), _, _, rfl, rfl, line_of (by have := lc one none (some 1); omega), (by show 5 ≤ sizeLine; decide), fun p5 hp5 => ?_⟩
  generalize hZ : upd _ p5 _ = H8
  have e8 := at_of3 hZ
  have S8 := same_of3 hZ hp5
  clear hZ
  refine ⟨p4, p5, _, _, rfl, rfl, S8 _ _ e7, e8, line_of (by rw [hn]; simp), fun p6 hp6 => ?_⟩
  generalize hZ : upd _ p6 _ = H9
  have e9 := at_of3 hZ
  have S9 := same_of3 hZ hp6
  clear hZ
  refine ⟨_, rfl, _, rfl, _, rfl, (by show 2 ≤ sizeLine; decide), fun p7 hp7 => ?_⟩
  generalize hZ : upd _ p7 _ = H10
  have e10 := at_of3 hZ
  have S10 := same_of3 hZ hp7
  clear hZ
  refine ⟨_, rfl, one, rfl, line_of (by omega), fun rev hrev => ⟨(by show 2 ≤ sizeLine; decide), fun p8 hp8 => ?_⟩⟩
  generalize hZ : upd _ p8 _ = H11
  have e11 := at_of3 hZ
  have S11 := same_of3 hZ hp8
  clear hZ
  refine ⟨p6, p8, _, _, rfl, rfl, S11 _ _ (S10 _ _ e9), e11, line_of (by rw [List.length_append, hn]; simp), fun p9 hp9 => ?_⟩
  generalize hZ : upd _ p9 _ = H12
  have e12 := at_of3 hZ
  have S12 := same_of3 hZ hp9
  clear hZ
  have hl : rev.length = one.length := by rw [← cl_len, hrev, List.length_reverse, cl_len]
  have S : Same H7 H12 := (((S8.trans S9).trans S10).trans S11).trans S12
  obtain ⟨v, hv, tv⟩ := at_all (P := Thing H12) (xs := (nine ++ [V.str (cutS one none (some at_) ++ "\"" ++ cutS one (some at_) none), .str (cutS one (some 1) none), .str (cutS one none (some (-1))), .str (cutS one none (some at_) ++ "\n" ++ cutS one (some at_) none), .str (one ++ cutS one none (some 1))]) ++ [V.ref p7, .str rev]) w0 (by rw [List.length_append, List.length_append, hn]; simpa using w1) (by
    intro v hv
    rcases List.mem_append.mp hv with hv | hv
    · rcases List.mem_append.mp hv with hv | hv
      · exact (al7 v hv).same S
      · simp only [List.mem_cons, List.not_mem_nil, or_false] at hv
        have q1 := lc one none (some at_)
        have q2 := lc one (some at_) none
        rcases hv with rfl | rfl | rfl | rfl | rfl
        · exact .str _ (by rw [la, la, str_len_q]; omega)
        · exact .str _ (by have := lc one (some 1) none; omega)
        · exact .str _ (by have := lc one none (some (-1)); omega)
        · exact .str _ (by rw [la, la, str_len_n]; omega)
        · exact .str _ (by have := lc one none (some 1); rw [la]; omega)
    · simp only [List.mem_cons, List.not_mem_nil, or_false] at hv
      rcases hv with rfl | rfl
      · exact .lst p7 [one, other] (S12 _ _ (S11 _ _ e10)) (by simp)
      · exact .str _ (by omega))
  refine ⟨_, rfl, _, rfl, p9, _, _, _, rfl, rfl, SqL.of e12, hv, ?_⟩
  exact kQ v H12 tv (B7.same S) (k7.trans (Keep.of S))
theorem cal__law_thing {P : Program} {w : World} {K : PySem.W.Frag} {mg : Str → Option Value} {base : Heap} (T : Top w K mg) : Callee P w K mg base CX0 4 "_law_thing" sp__law_thing [] := by
  obtain ⟨fd, F, S⟩ := ok__law_thing (P := P) T
  exact ⟨fd, _, [], S base, T.g__law_thing, F.kp, F.bindsN (fun _ _ _ _ _ _ us hl => match us, hl with | [_], _ => rfl), .nil⟩

/-- a comprehension's list stands at D, the rest as it was -/
theorem cnt_is (c : Nat) : ∀ l : List Nat, PyProof.Rows.cnt c l = (l.count c : Int)
  | [] => rfl
  | a :: r => by
    rw [PyProof.Rows.cnt_cons, cnt_is c r]
    by_cases h : a = c
    · subst h; rw [if_pos rfl, List.count_cons_self]; omega
    · rw [if_neg h, List.count_cons_of_ne h]; omega
def sp__law_is_due : Sp := fun vs H Q _ => ∃ (v : V), vs = [v] ∧ Thing H v ∧ ∀ H', Same H H' → Q (.bl (judged due v)) H'
theorem at_last {l : List Nat} {c : Nat} {r : List Nat} (e : l = c :: r) : atI l (-1) = some (l.getLastD 0) := by
  have h : l ≠ [] := by rw [e]; simp
  have q := atI_last (l.dropLast) (l.getLast h)
  rw [List.dropLast_concat_getLast h] at q
  rw [q, List.getLastD_eq_getLast?, List.getLast?_eq_some_getLast h]; rfl
theorem q34 : ("\"" : Str) = ⟨#[34]⟩ := by decide +kernel
theorem ok__law_is_due {P : Program} {w : World} {K : PySem.W.Frag} {mg : Str → Option Value} (T : Top w K mg) : ∃ fd : FuncData, FunD K "_law_is_due" "_law_is_due" (defArgs st__law_is_due) (defBody st__law_is_due) (defScope st__law_is_due) (dd__law_is_due.dvs K) (dd__law_is_due.kws K) (He.ga K "_law_is_due") fd ∧ ∀ base : Heap, FnOk P w K mg base CX0 1 (He.ga K "_law_is_due") fd ["_law_thing_here"] sp__law_is_due := by
  obtain ⟨fd, F⟩ := T.f__law_is_due
  refine ⟨fd, F, fun base => F.ok sc__law_is_due (fun vs H Q E h => by obtain ⟨_, rfl, _⟩ := h; rfl) (fun cdv A outer s H vs Q E hr h => ⟨_, PSs.nox
 ((pss_cons (ps_set (i := 1) sc__law_is_due.nd rfl (Or.inr rfl) pe_str)
 (pss_cons (ps_if (PW.pt (pw_or (pt_not (pt_val (pe_callB call_isi (by rfl) T.n_isinstance (by decide +kernel) (pa_cons (pv 0) (pa_cons (pe_bltn (v := .ty "str") (by rfl) T.n_str (by decide +kernel) rfl) pa_nil))))) (pw_or (pt_cmpR op_eq (pv 0) pe_str (nomark _)) (pw_or1 (pt_cmpR op_in_sign pe_str (pv 0) (by rfl))))))
 (pss_one (ps_ret pe_bl))
 pss_nil)
 (pss_cons (ps_if (pt_cmpR op_in_sign (pe_ix ix_str (pv 0) pe_int (fun _ _ => rfl)) (pv 1) (by rfl))
 (pss_one (ps_ret (pe_callB (cr_all rfl) (by rfl) T.n_all (by decide +kernel) (pa_cons (pe_lc (own := [("_law_sign", 2)]) (g := gName 2) (tt := tYes) rfl sc__law_is_due.nd (pi_str (pv 0)) (blkOk_by (N := ["_law_thing_here", "_law_signs", "_law_sign"]) (sc := defScope st__law_is_due) (by decide +kernel)) (fun _ _ _ _ _ => pg_name (i := 2) sc__law_is_due.nd rfl (Or.inl rfl)) (fun _ _ _ _ _ => pts_nil) (fun _ _ _ _ _ => (pe_cmpR op_in_sign (pv 2) (pv 1) (by rfl)))) pa_nil))))
 pss_nil)
 (pss_cons (ps_if (pt_cmpR op_eq (pe_ix ix_str (pv 0) pe_int (fun _ _ => rfl)) pe_str (nomark _))
 (pss_one (ps_ret (pe_and (pe_cmpR op_gt (pe_callB call_len_str (by rfl) T.n_len (by decide +kernel) (pa_cons (pv 0) pa_nil)) pe_int (nomark _)) (pe_and (pe_cmpR op_eq (pe_m1 PySem.F.slot_str_count PySem.F.type_str_count mt_count (pv 0) pe_str) pe_int (nomark _)) (pe_one (pe_cmpR op_eq (pe_ix ix_str (pv 0) (pe_un un_neg pe_int) (fun _ _ => rfl)) pe_str (nomark _)))))))
 pss_nil)
 (pss_cons (ps_if (pt_cmpR op_eq (pe_callB call_len_str (by rfl) T.n_len (by decide +kernel) (pa_cons (pv 0) pa_nil)) pe_int (nomark _))
 (pss_one (ps_ret (pe_cmpR op_ne (pv 0) pe_str (nomark _))))
 pss_nil)
 (pss_one (ps_ret (pe_cmpR op_in_seq (pv 0) (pe_lst (pa_cons pe_str (pa_cons pe_str (pa_cons pe_str (pa_cons pe_str (pa_cons pe_str (pa_cons pe_str (pa_cons pe_str pa_nil)))))))) (by rfl)))))))))), ?_⟩)⟩
  obtain ⟨v, rfl, t, kQ⟩ := h
  rcases t.ty (K := K) with ⟨z, rfl, hz, tx⟩ | ⟨Tn, tx, kb, jf⟩
  · refine ⟨_, rfl, _, .ty "str", _, _, _, rfl, .ty "str", tx, kit_ty (r := true) (by decide +kernel), _, rfl, ?_⟩
    refine iteF ⟨_, rfl, rfl, _, rfl, ?_⟩
    have hcl := cl_len z
    have hjd : judged due (V.str z) = due (cl z) := rfl
    rw [hjd] at kQ
    refine iteD (fun c => ?_) (fun c => ?_)
    · have e : cl z = [] := by have := V.str.inj c; rw [this]; exact nil_s
      rw [e] at kQ
      exact kQ H (Same.refl H)
    · obtain ⟨a, r, e⟩ : ∃ a r, cl z = a :: r := by
        cases q : cl z with
        | nil => exact absurd (congrArg V.str (str_eq.mpr (q.trans nil_s.symm))) c
        | cons a r => exact ⟨a, r, rfl⟩
      have hx : (cl z)[0]? = some a := by rw [e]; rfl
      have hl : z.length = r.length + 1 := by rw [← hcl, e]; rfl
      have hq : due (cl z) = (decide (10 ∉ a :: r) && (if isLF a = true then (a :: r).all isLF else if a = 34 then decide (r.length + 1 > 1) && (decide ((a :: r).count 34 = 2) && decide ((a :: r).getLastD 0 = 34)) else if r.length = 0 then decide (a ≠ 32) else decide (a :: r ∈ prs))) := by rw [e]; rfl
      rw [hq] at kQ
      refine ⟨_, rfl, _, _, congrArg V.str one_nl, rfl, _, rfl, ?_⟩
      show if decide (10 ∈ cl z) = true then _ else _
      rw [e]
      refine iteD (fun c3 => ?_) (fun c3 => ?_)
      · rw [decide_eq_false (by simp [c3]), Bool.false_and] at kQ; exact kQ H (Same.refl H)
      · rw [decide_eq_true c3, Bool.true_and] at kQ
        refine ⟨_, rfl, z, _, _, rfl, rfl, line_of (by omega), atI_nat (j := 0) hx, _, rfl, _, _, rfl, rfl, _, rfl, ?_⟩
        rw [← LF_mem]
        refine iteB (fun b => ?_) (fun b => ?_)
        · rw [if_pos b] at kQ
          refine ⟨_, rfl, z, rfl, fun D hD => lc_it walk_str (fun i H' => H' = upd H D (.lst (((cl z).take i).map fun c => V.bl (isLF c)))) rfl (fun _ _ _ _ => trivial) ?_ ?_⟩
          · rintro i x H2 H' hi rfl ⟨rfl, c, hc, rfl⟩
            refine ⟨rfl, _, rfl, _, rfl, _, _, rfl, rfl, ?_⟩
            have hc' : (cl z)[i]? = some c := by rw [Array.getElem?_toList]; exact hc
            refine ⟨_, upd_same, by rw [List.length_map, List.length_take, ss]; omega, ?_⟩
            rw [upd_upd, ← LF_mem, take_more hc', List.map_append]
            rfl
          · rintro H2 rfl
            refine ⟨D, (cl z).map isLF, rfl, ?_, ?_⟩
            · have e2 : ((cl z).take z.cps.size).map (fun c => V.bl (isLF c)) = ((cl z).map isLF).map V.bl := by
                rw [List.take_of_length_le (by rw [hcl]; exact Nat.le_refl _), List.map_map]; rfl
              rw [e2]
              exact SqL.of upd_same
            · have e3 : ((cl z).map isLF).all id = (a :: r).all isLF := by rw [e, List.all_map]; rfl
              rw [e3]
              exact kQ _ ((Same.refl H).new hD)
        · rw [if_neg (by rw [b]; decide)] at kQ
          refine ⟨_, rfl, z, _, _, rfl, rfl, line_of (by omega), atI_nat (j := 0) hx, rfl, _, rfl, ?_⟩
          rw [q34, V_one]
          refine iteD (fun c34 => ?_) (fun c34 => ?_)
          · rw [if_pos c34] at kQ
            subst c34
            refine ⟨_, rfl, z, rfl, line_of (by omega), _, _, rfl, rfl, _, rfl, ?_⟩
            have k1 : decide ((1 : Int) < (z.length : Nat)) = decide (r.length + 1 > 1) := by rw [decide_eq_decide]; omega
            rw [k1]
            refine iteB (fun g => ?_) (fun g => ?_)
            · rw [g, Bool.true_and] at kQ
              refine ⟨_, rfl, ⟨_, rfl⟩, _, _, rfl, congrArg (fun y => [V.str y]) q34, rfl, _, rfl, ?_⟩
              have k2 : decide (V.int (Txt.count z ⟨#[34]⟩) = V.int 2) = decide ((34 :: r).count 34 = 2) := by
                rw [PyProof.Rows.count_cnt, cnt_is, decide_eq_decide, V.int.injEq, show z.cps.toList = 34 :: r from e]; omega
              rw [k2]
              refine iteB (fun g2 => ?_) (fun g2 => ?_)
              · rw [g2, Bool.true_and] at kQ
                refine ⟨_, rfl, _, rfl, z, _, _, rfl, rfl, line_of (by omega), at_last e, rfl, ?_⟩
                show Q (.bl (decide (V.str ⟨#[(cl z).getLastD 0]⟩ = V.str "\""))) H
                rw [q34, V_one, e]
                exact kQ H (Same.refl H)
              · rw [g2, Bool.false_and] at kQ
                exact kQ H (Same.refl H)
            · rw [g, Bool.false_and] at kQ
              exact kQ H (Same.refl H)
          · rw [if_neg c34] at kQ
            refine ⟨_, rfl, z, rfl, line_of (by omega), rfl, _, rfl, ?_⟩
            refine iteD (fun g => ?_) (fun g => ?_)
            · have hr0 : r.length = 0 := by have := V.int.inj g; omega
              rw [if_pos hr0] at kQ
              refine ⟨_, rfl, rfl, ?_⟩
              have hr : r = [] := List.eq_nil_of_length_eq_zero hr0
              have ez : z = ⟨#[a]⟩ := str_eq.mpr (by rw [e, hr])
              have k3 : (!decide (V.str z = V.str " ")) = decide (a ≠ 32) := by
                rw [one_bl, ez, V_one]; simp
              rw [k3]
              exact kQ H (Same.refl H)
            · have hr0 : ¬ r.length = 0 := fun q => g (congrArg V.int (by omega))
              rw [if_neg hr0] at kQ
              refine ⟨_, rfl, (by show 7 ≤ sizeLine; decide), fun p hp => ⟨_, _, rfl, .inl (SqL.of upd_same), rfl, rfl, ?_⟩⟩
              show Q (.bl (inV (V.str z) _)) _
              rw [in_prs, e]
              exact kQ _ ((Same.refl H).new hp)
  · refine ⟨_, rfl, _, .ty "str", _, _, _, rfl, .ty "str", tx, kit_ty kb, _, rfl, ?_⟩
    rw [jf] at kQ
    exact iteT (kQ H (Same.refl H))
theorem cal__law_is_due {P : Program} {w : World} {K : PySem.W.Frag} {mg : Str → Option Value} {base : Heap} (T : Top w K mg) : Callee P w K mg base CX0 1 "_law_is_due" sp__law_is_due [] := by
  obtain ⟨fd, F, S⟩ := ok__law_is_due (P := P) T
  exact ⟨fd, _, [], S base, T.g__law_is_due, F.kp, F.bindsN (fun _ _ _ _ _ _ us hl => match us, hl with | [_], _ => rfl), .nil⟩

def sp__law_right (K : PySem.W.Frag) : Sp := fun vs H Q _ => ∃ (v : V), vs = [v] ∧ Thing H v ∧ ∀ H', Same H H' → Q (.bl true) H'
theorem Thing.lty {K : PySem.W.Frag} {H : Hp} {v : V} (t : Thing H v) : (∃ (p : Addr) (zs : List Str), v = .ref p ∧ H p = some (.lst (zs.map V.str)) ∧ zs.length ≤ 2 ∧ TyX K H v (.type "list")) ∨ ∃ T : String, TyX K H v (.type T) ∧ kitB T "list" = some false ∧ ∃ b, b = true ∧ ((flatV v = true ∧ flatV v = true ∧ b = eqV v v) ∨ EqT K H (EqW K H 1) v v b) := by
  cases t with
  | non => exact .inr ⟨"NoneType", .base .non, by decide +kernel, _, rfl, .inl ⟨rfl, rfl, (eqV_self rfl).symm⟩⟩
  | bl b => exact .inr ⟨"bool", .base (.bl b), by decide +kernel, _, rfl, .inl ⟨rfl, rfl, (eqV_self rfl).symm⟩⟩
  | int i => exact .inr ⟨"int", .base (.int i), by decide +kernel, _, rfl, .inl ⟨rfl, rfl, (eqV_self rfl).symm⟩⟩
  | str z h => exact .inr ⟨"str", .base (.str z), by decide +kernel, _, rfl, .inl ⟨rfl, rfl, (eqV_self rfl).symm⟩⟩
  | lst p zs h hl => exact .inl ⟨p, zs, rfl, h, hl, .base (.lst h)⟩
  | tup p z h => exact .inr ⟨"tuple", .base (.tup h), by decide +kernel, _, rfl, .inr (.inr (.inl ⟨p, p, _, _, rfl, rfl, SqT.of h, SqT.of h, seqE_self [.str z] (by simp [flatV])⟩))⟩
theorem ok__law_right {P : Program} {w : World} {K : PySem.W.Frag} {mg : Str → Option Value} (T : Top w K mg) : ∃ fd : FuncData, FunD K "_law_right" "_law_right" (defArgs st__law_right) (defBody st__law_right) (defScope st__law_right) (dd__law_right.dvs K) (dd__law_right.kws K) (He.ga K "_law_right") fd ∧ ∀ base : Heap, FnOk P w K mg base CX0 4 (He.ga K "_law_right") fd ["_law_thing_here"] (sp__law_right K) := by
  obtain ⟨fd, F⟩ := T.f__law_right
  refine ⟨fd, F, fun base => F.ok sc__law_right (fun vs H Q E h => by obtain ⟨_, rfl, _⟩ := h; rfl) (fun cdv A outer s H vs Q E hr h => ⟨_, PSs.nox
 ((pss_cons (ps_set (i := 1) sc__law_right.nd rfl (Or.inl rfl) (pe_ifExp (pt_val (pe_callB call_isi (by rfl) T.n_isinstance (by decide +kernel) (pa_cons (pv 0) (pa_cons (pe_bltn (v := .ty "list") (by rfl) T.n_list (by decide +kernel) rfl) pa_nil)))) (pe_callTy call_list_of (by rfl) T.n_list (by decide +kernel) (pa_cons (pv 0) pa_nil)) (pv 0)))
 (pss_cons (ps_set (i := 2) sc__law_right.nd rfl (Or.inl rfl) (pc (cal_is_token T) hr (by decide) pass0 rfl (pa_cons (pv 1) pa_nil)))
 (pss_one (ps_ret (pe_and (pe_callB call_isi (by rfl) T.n_isinstance (by decide +kernel) (pa_cons (pv 2) (pa_cons (pe_bltn (v := .ty "bool") (by rfl) T.n_bool (by decide +kernel) rfl) pa_nil))) (pe_and (pe_cmpR op_eq (pv 2) (pc (cal__law_is_due T) hr (by decide) pass0 rfl (pa_cons (pv 0) pa_nil)) (nomark _)) (pe_one (pe_cmpR (op_eqW hr.units) (pv 1) (pv 0) (nomark _)))))))))), ?_⟩)⟩
  obtain ⟨v, rfl, t, kQ⟩ := h
  have hd : judged isTok v = judged due v := by
    cases v <;> first | rfl | exact due_tok _
  rcases t.lty (K := K) with ⟨p, zs, rfl, hp, hl, tx⟩ | ⟨Tn, tx, kb, b, rfl, hb⟩
  · refine ⟨_, rfl, _, .ty "list", _, _, _, rfl, .ty "list", tx, kit_ty (r := true) (by decide +kernel), _, rfl, iteT ⟨_, rfl, p, _, rfl, .inl (SqL.of hp), fun q hq => ?_⟩⟩
    generalize hZ : upd _ q _ = H1
    have e1 := at_of3 hZ
    have S1 := same_of3 hZ hq
    clear hZ
    refine ⟨_, rfl, _, rfl, .lst q zs e1 hl, ?_⟩
    refine ⟨_, rfl, _, .ty "bool", _, _, _, rfl, .ty "bool", .base (.bl _), kit_ty (r := true) (by decide +kernel), _, rfl, iteT ⟨_, rfl, _, rfl, _, rfl, t.same S1, fun H2 S2 => ?_⟩⟩
    refine ⟨rfl, _, rfl, ?_⟩
    rw [show judged isTok (V.ref q) = judged due (V.ref p) from rfl, decide_eq_true rfl]
    refine iteT ⟨_, rfl, _, rfl, 1, true, by decide, .inr (.inl ⟨q, p, _, _, rfl, rfl, SqL.of (S2 _ _ e1), SqL.of (S2 _ _ (S1 _ _ hp)), .inr (seqE_self _ (by rw [List.all_map]; exact List.all_eq_true.mpr fun _ _ => rfl))⟩), ?_⟩
    exact kQ _ (S1.trans S2)
  · refine ⟨_, rfl, _, .ty "list", _, _, _, rfl, .ty "list", tx, kit_ty kb, _, rfl, iteF ⟨_, rfl, _, rfl, _, rfl, t, ?_⟩⟩
    refine ⟨_, rfl, _, .ty "bool", _, _, _, rfl, .ty "bool", .base (.bl _), kit_ty (r := true) (by decide +kernel), _, rfl, iteT ⟨_, rfl, _, rfl, _, rfl, t, fun H2 S2 => ?_⟩⟩
    refine ⟨rfl, _, rfl, ?_⟩
    rw [hd, decide_eq_true rfl]
    refine iteT ⟨_, rfl, _, rfl, 1, true, by decide, ?_, kQ _ S2⟩
    rcases (t.same S2).lty (K := K) with ⟨p, zs, rfl, hp, hl, _⟩ | ⟨_, _, _, b, rfl, hb⟩
    · exact .inr (.inl ⟨p, p, _, _, rfl, rfl, SqL.of hp, SqL.of hp, .inr (seqE_self _ (by rw [List.all_map]; exact List.all_eq_true.mpr fun _ _ => rfl))⟩)
    · exact hb
theorem cal__law_right {P : Program} {w : World} {K : PySem.W.Frag} {mg : Str → Option Value} {base : Heap} (T : Top w K mg) : Callee P w K mg base CX0 4 "_law_right" (sp__law_right K) [] := by
  obtain ⟨fd, F, S⟩ := ok__law_right (P := P) T
  exact ⟨fd, _, [], S base, T.g__law_right, F.kp, F.bindsN (fun _ _ _ _ _ _ us hl => match us, hl with | [_], _ => rfl), .nil⟩

/-! ### the law -/
def sp_law (K : PySem.W.Frag) : Sp := fun vs H Q _ => ∃ (a : Addr) (ns : List Int), vs = [.ref a] ∧ SqL K H a (ns.map V.int) ∧ ns.length ≤ 63 ∧ ∀ H', Q (.bl true) H'
theorem law_pre {K : PySem.W.Frag} {H : Hp} {a : Addr} {ns : List Int} (hl : ns.length ≤ 63) (hO : Only H) (hS : SqL K H a (ns.map V.int)) : sp_law K [.ref a] H (fun v _ => v = .bl true) fun _ _ _ => False :=
  ⟨a, ns, rfl, hS, hl, fun _ => rfl⟩
theorem ok_law {P : Program} {w : World} {K : PySem.W.Frag} {mg : Str → Option Value} (T : Top w K mg) : ∃ fd : FuncData, FunD K "law" "law" (defArgs st_law) (defBody st_law) (defScope st_law) (dd_law.dvs K) (dd_law.kws K) (He.ga K "law") fd ∧ ∀ base : Heap, FnOk P w K mg base CX0 5 (He.ga K "law") fd ["_law_script"] (sp_law K) := by
  obtain ⟨fd, F⟩ := T.f_law
  refine ⟨fd, F, fun base => F.ok sc_law (fun vs H Q E h => by obtain ⟨_, _, rfl, _⟩ := h; rfl) (fun cdv A outer s H vs Q E hr h => ⟨_, PSs.nox
 ((pss_cons (ps_for PassesOwn.never rfl (pi_range1 rfl T.n_range (pa_cons (pe_callB (call_max2 rfl) (by rfl) T.n_max (by decide +kernel) (pa_cons pe_int (pa_cons (pe_callB (call_min2 rfl) (by rfl) T.n_min (by decide +kernel) (pa_cons pe_int (pa_cons (pe_callB call_len_seq (by rfl) T.n_len (by decide +kernel) (pa_cons (pv 0) pa_nil)) pa_nil))) pa_nil))) pa_nil)) (pg_name (i := 1) sc_law.nd rfl (Or.inl rfl))
 (pss_cons (ps_set (i := 2) sc_law.nd rfl (Or.inl rfl) (pc (cal__law_bag T) hr (by decide) pass0 rfl (pa_cons (pv 0) (pa_cons (pv 1) pa_nil))))
 (pss_one (ps_for PassesOwn.never rfl (pi_range1 rfl T.n_range (pa_cons pe_int pa_nil)) (pg_name (i := 3) sc_law.nd rfl (Or.inl rfl))
 (pss_one (ps_if (pt_not (pt_val (pc (cal__law_right T) hr (by decide) pass0 rfl (pa_cons (pc (cal__law_thing T) hr (by decide) pass0 rfl (pa_cons (pv 2) pa_nil)) pa_nil))))
 (pss_one (ps_ret pe_bl))
 pss_nil))))))
 (pss_cons (ps_set (i := 4) sc_law.nd rfl (Or.inl rfl) (pe_lst (pa_cons pe_str (pa_cons pe_str (pa_cons pe_str (pa_cons pe_str (pa_cons pe_str (pa_cons pe_str (pa_cons pe_str (pa_cons pe_str (pa_cons pe_str (pa_cons pe_str (pa_cons pe_str (pa_cons pe_str (pa_cons pe_str (pa_cons pe_str (pa_cons pe_str pa_nil)))))))))))))))))
 (pss_cons (ps_set (i := 4) sc_law.nd rfl (Or.inl rfl) (pe_op op_cat (pv 4) (pe_lst (pa_cons pe_str (pa_cons pe_str (pa_cons pe_str pa_nil))))))
 (pss_one (ps_ret (pe_callB (cr_all rfl) (by rfl) T.n_all (by decide +kernel) (pa_cons (pe_lc (own := [("_law_thing_here", 5)]) (g := gName 5) (tt := tYes) rfl sc_law.nd (pi_list (pv 4)) (blkOk_by (N := ["_law_script", "_law_k", "_law_bag_here", "_law_turn", "_law_some", "_law_thing_here"]) (sc := defScope st_law) (by decide +kernel)) (fun _ _ _ _ _ => pg_name (i := 5) sc_law.nd rfl (Or.inl rfl)) (fun _ _ _ _ _ => pts_nil) (fun _ _ _ _ _ => (pc (cal__law_right T) hr (by decide) pass0 rfl (pa_cons (pv 5) pa_nil)))) pa_nil)))))))), ?_⟩)⟩
  obtain ⟨a, ns, rfl, hS, hl, kQ⟩ := h
  refine ⟨_, rfl, a, _, rfl, .inl hS, _, _, rfl, _, _, rfl, ?_⟩
  rw [List.length_map]
  refine ⟨_, rfl, by split <;> split <;> omega, by split <;> split <;> omega, ?_⟩
  refine for_range (fun i σ H' => Same H H' ∧ ∃ (x y z : Option V), σ = [some (.ref a), x, y, z, none, none]) ⟨Same.refl H, none, none, none, rfl⟩ ?_ ?_
  · rintro i σ H1 hi ⟨S1, x, y, z, rfl⟩
    refine ⟨_, rfl, _, rfl, a, _, rfl, ⟨ns, S1.seq hS, hl⟩, by omega, fun b n f hb B => ?_⟩
    have hb0 := frees S1 hb
    generalize hZ : upd _ b _ = H2
    have e2 := at_of3 hZ
    have S2 := same_of3 hZ hb
    clear hZ
    have B2 : BagAt H2 b := ⟨n, f, e2, B⟩
    have S02 := S1.trans S2
    refine ⟨5, rfl, by decide, by decide, ?_⟩
    refine for_range (fun j σ H' => BagAt H' b ∧ Same H H' ∧ ∃ (z : Option V), σ = [some (.ref a), some (.int (0 + i)), some (.ref b), z, none, none]) ⟨B2, S02, z, rfl⟩ ?_ ?_
    · rintro j σ H3 hj ⟨B3, S3, z, rfl⟩
      refine ⟨_, rfl, b, rfl, B3, fun v H4 t4 B4 k4 => ⟨v, rfl, t4, fun H5 S5 => ⟨_, rfl, ?_⟩⟩⟩
      exact ⟨B4.same S5, (S3.keep k4 hb0).trans S5, _, rfl⟩
    · rintro σ H3 ⟨B3, S3, z, rfl⟩
      exact ⟨S3, _, _, _, rfl⟩
  · rintro σ H1 ⟨S1, x, y, z, rfl⟩
    refine ⟨(by show 15 ≤ sizeLine; decide), fun p1 hp1 => ?_⟩
    generalize hZ : upd _ p1 _ = H2
    have e2 := at_of3 hZ
    have S2 := same_of3 hZ hp1
    clear hZ
    refine ⟨_, rfl, (by show 3 ≤ sizeLine; decide), fun p2 hp2 => ?_⟩
    generalize hZ : upd _ p2 _ = H3
    have e3 := at_of3 hZ
    have S3 := same_of3 hZ hp2
    clear hZ
    refine ⟨p1, p2, _, _, rfl, rfl, S3 _ _ e2, e3, (by show 15 + 3 ≤ sizeLine; decide), fun p3 hp3 => ?_⟩
    generalize hZ : upd _ p3 _ = H4
    have e4 := at_of3 hZ
    have S4 := same_of3 hZ hp3
    clear hZ
    refine ⟨_, rfl, p3, rfl, ⟨_, SqL.of e4⟩, fun D hD => ?_⟩
    refine lc_list (K := K) (a := p3) (fun i H' => Same H4 H' ∧ H' D = some (.lst (List.replicate i (.bl true)))) ⟨(Same.refl H4).new hD, upd_same⟩ (fun i H' _ h => h.1.seq (SqL.of e4)) ?_ ?_
    · rintro i x H5 hx ⟨S5, e5⟩
      have hx18 : i < 18 := (List.getElem?_eq_some_iff.mp hx).1
      obtain ⟨w, rfl, hw⟩ : ∃ w : Str, x = .str w ∧ w.length ≤ 1000 := by
        have m := List.mem_of_getElem? hx
        simp only [List.mem_append, List.mem_cons, List.not_mem_nil, or_false] at m
        rcases m with (rfl | rfl | rfl | rfl | rfl | rfl | rfl | rfl | rfl | rfl | rfl | rfl | rfl | rfl | rfl) | (rfl | rfl | rfl)
        all_goals exact ⟨_, rfl, by decide +kernel⟩
      refine ⟨rfl, _, rfl, _, rfl, .str w hw, fun H6 S6 => ⟨_, S6 _ _ e5, by rw [List.length_replicate, ss]; omega, ?_, ?_⟩⟩
      · exact fun c o h => by
          have h6 := S6 _ _ (S5 _ _ h)
          rw [upd_ne (ne_of_none h hD)]
          exact h6
      · rw [upd_same, List.replicate_succ']
    · rintro H5 ⟨S5, e5⟩
      refine ⟨D, List.replicate 18 true, rfl, SqL.of (by rw [List.map_replicate]; exact e5), ?_⟩
      exact kQ H5
theorem cal_law {P : Program} {w : World} {K : PySem.W.Frag} {mg : Str → Option Value} {base : Heap} (T : Top w K mg) : Callee P w K mg base CX0 5 "law" (sp_law K) [] := by
  obtain ⟨fd, F, S⟩ := ok_law (P := P) T
  exact ⟨fd, _, [], S base, T.g_law, F.kp, F.bindsN (fun _ _ _ _ _ _ us hl => match us, hl with | [_], _ => rfl), .nil⟩


end Z

namespace Z
open PySem PySem.Spec PyProof.Rows L2
/-! ### the head, the end -/
abbrev R : PySem.W.OpenRow := PySem.W.OpenLaw.row PySem.Challenge.rw_bluepaint_k01_tokens_judged
abbrev hk : PySem.W.Hook := He.hookX 5 fa fn [] [] exB
def ob (s : PySem.W.SharedT) : He.AlX := He.obsX 5 fa fn [] [] exB (HandSHeadRun.getT s)
theorem ob_eq (s : PySem.W.SharedT) : ob s = hk.obs s.abs := He.obsX_eq (HandSHeadRun.getT_eq s)
def loose : List Str := (["__name__", "LETTERS", "FIGURES", "PAIRS", "word_end", "token_end", "is_token", "_law_cell", "_law_bag", "_law_take", "_law_word", "_law_token", "_law_thing", "_law_is_due", "_law_right"] : List Str)
set_option maxHeartbeats 0 in
theorem run (w : World) : HandSHeadRun.RunEq R (PySem.W.view R.prog [16]) hk ob 20000 loose w := by
  intro os
  kernel_rfl
theorem law_fd {w : World} {K : PySem.W.Frag} {mg : Str → Option Value} {P : Program} (T : Top w K mg) : ∃ fd : FuncData, (∀ (s : Shared) (u : Value), BindsTo s fd ⟨[u], []⟩ [("_law_script", u)]) ∧ ∀ base : Heap, FnOk P w K mg base CX0 5 (He.ga K "law") fd ["_law_script"] (sp_law K) := by
  obtain ⟨fd, F, S⟩ := ok_law (P := P) T
  exact ⟨fd, fun s u => FunD.bindsA (ps := ["_law_script"]) F (fun _ _ _ _ _ _ us hl => match us, hl with | [_], _ => rfl) s [u] rfl, S⟩
end Z
open PySem PySem.W PySem.Calls PyProof.Rows
set_option maxRecDepth 100000 in
set_option maxHeartbeats 0 in
theorem PySem.Challenge.cw_bluepaint_k01_tokens_judged_holds : PySem.Challenge.rw_bluepaint_k01_tokens_judged.Holds := by
  w_on; o_law
  refine HandSHeadRun.head_any (r := OpenLaw.row PySem.Challenge.rw_bluepaint_k01_tokens_judged) (q := view (OpenLaw.row PySem.Challenge.rw_bluepaint_k01_tokens_judged).prog [16]) (H := Z.hk) (ob := Z.ob) (M := 20000) (loose := Z.loose) (d := HandSHeadRun.topDef (OpenLaw.row PySem.Challenge.rw_bluepaint_k01_tokens_judged).prog 16) (kwd := []) Z.ob_eq
    (by kernel_rfl) (fun s => by kernel_rfl) Z.run (by kernel_rfl) (by kernel_rfl) (by kernel_rfl) (by rfl) (by first | assumption | decide +kernel) (by decide +kernel) ⟨rfl, rfl, rfl, rfl, rfl, by decide +kernel⟩ ?hw ?hc
  case hw => w_witness2
  case hc =>
    refine L2.walk_ofE (l := PySem.Challenge.rw_bluepaint_k01_tokens_judged) (n := 63) (k := 5) (x := "_law_script") (CX := L2.CX0) rfl (by decide) (by kernel_rfl) ⟨rfl, by decide, by decide⟩ ?F (fun _ _ _ _ z => z)
    intro w mg fa h Y G hmg0
    obtain ⟨K, KX, c⟩ := Y
    have hmg : mg ("law" : PySem.Str) = some (.ref fa) := by
      have e : (HandSHeadRun.topDef (OpenLaw.row PySem.Challenge.rw_bluepaint_k01_tokens_judged).prog 16).name = ("law" : PySem.Str) := by kernel_rfl
      rw [← e]
      exact hmg0
    have T : Z.Top w K mg := ⟨h, KX, G, c⟩
    have e := hmg.symm.trans T.g_law
    cases e
    obtain ⟨fd, hb, hF⟩ := Z.law_fd (P := (PySem.Challenge.rw_bluepaint_k01_tokens_judged).prog) T
    exact ⟨K, fd, Z.sp_law K, KX, hb, fun H a ns hl hO hS => Z.law_pre hl hO hS, fun base _ _ => hF base⟩
