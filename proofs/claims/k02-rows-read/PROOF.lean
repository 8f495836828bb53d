import PyProof.Rows.All
import Wide.All
import OpenK.AllK
import Wide.FinOn
import HandS.ForMost
import HandS.ForExc
import HandS.Codes
import HandS.Defaults
import HandS.IsInst
import HandS.StrMore
import HandS.Wide
import HandS.MakeKw
import HandS.MakeKwOnly
import HandS.WordsExc
import HandS.WideMore
import HandS.Deep
import HandS.TupAny
import HandS.Style
import HandS.Flow
import HandS.Conv
import HandS.Walk
import HandS.Small
import HandS.Head0
import HandS.Head1
import HandS.Head2
import HandS.HeadEnd
import HandS.HeadHook1
import HandS.HeadHook2
import HandS.HeadHook3
import HandS.HeadHook4
import PyProof.NeKinds
import PySem.Challenge.RW_bluepaint_k02_rows_read
set_option Elab.async false
set_option linter.all false
set_option maxRecDepth 100000
set_option maxHeartbeats 4000000
/-! my layer over HandS: callees by name, decisions, heaps -/
namespace Z
open PySem PySem.Spec PyProof.Rows L2
/-! ### callees -/
/-- a def of the module, called by places, the trailing defaults dvs -/
def Callee (P : Program) (w : World) (K : PySem.W.Frag) (mg : Str → Option Value) (base : Heap) (CX : CXT) (k : Nat) (x : Str) (sp : Sp) (dvs : List V) : Prop :=
  ∃ (fd : FuncData) (ps : List Str) (ds : List Value), FnOk P w K mg base CX k (He.ga K x) fd ps sp ∧ mg x = some (.ref (He.ga K x)) ∧ PySem.W.keepIn K (.ref (He.ga K x)) = true ∧ Binds K fd ps ds ∧ Vals dvs ds
section
variable {X : Cx} {CX : CXT} {k j : Nat} {x m : Str} {sp : Sp} {dvs : List V} {p pos apos : Pos} {e o : Expr} {es : List Expr} {ta : TE} {t : TA} {E : XK}
theorem pc (c : Callee X.prog X.w X.K X.mg X.base CX k x sp dvs) (hr : Room j X.A) (hk : k ≤ j) (hx : Passes CX X E) (hg : Gl X x) (ha : PA X (e :: es) t)
    (hdb : (x == ("__debug__" : Str)) = false := by decide) (he : starEach (e :: es) X.env = (false, eval e X.env) :: starEach es X.env := by rfl) (hpl : (backTo pos (starEach es X.env)).any (·.1) = false := by rfl) :
    PE X (.Call (.Name x p) (e :: es) [] pos) (tCall sp dvs E t) := by
  obtain ⟨fd, ps, ds, F, hm, kp, b, d⟩ := c
  exact pe_call F (hr.mono hk) hg hm kp b d hx ha hdb he hpl
theorem pc0 (c : Callee X.prog X.w X.K X.mg X.base CX k x sp dvs) (hr : Room j X.A) (hk : k ≤ j) (hx : Passes CX X E) (hg : Gl X x)
    (hdb : (x == ("__debug__" : Str)) = false := by decide) :
    PE X (.Call (.Name x p) [] [] pos) (tCall sp dvs E tNil) := by
  obtain ⟨fd, ps, ds, F, hm, kp, b, d⟩ := c
  exact pe_call0 F (hr.mono hk) hg hm kp b d hx hdb
end
/-! ### constants of the module -/
theorem pe_gs {X : Cx} {x z : Str} {pos : Pos} (h : ∃ t, X.mg x = some (.str z t)) (hg : Gl X x := by rfl) (hd : (x == ("__debug__" : Str)) = false := by decide) : PE X (.Name x pos) (tC (.str z)) :=
  C8.pe_gc hg (by obtain ⟨t, e⟩ := h; exact ⟨_, e, ⟨t, rfl⟩⟩) hd
theorem pe_gi {X : Cx} {x : Str} {z : Int} {pos : Pos} (h : ∃ t, X.mg x = some (.int z t)) (hg : Gl X x := by rfl) (hd : (x == ("__debug__" : Str)) = false := by decide) : PE X (.Name x pos) (tC (.int z)) :=
  C8.pe_gc hg (by obtain ⟨t, e⟩ := h; exact ⟨_, e, ⟨t, rfl⟩⟩) hd
theorem pe_gr {X : Cx} {x : Str} {a : Addr} {pos : Pos} (h : X.mg x = some (.ref a)) (hg : Gl X x := by rfl) (hd : (x == ("__debug__" : Str)) = false := by decide) : PE X (.Name x pos) (tC (.ref a)) :=
  C8.pe_gc hg ⟨_, h, rfl⟩ hd
/-! ### decisions -/
theorem iteD {c A B : Prop} [Decidable c] (h1 : c → A) (h2 : ¬ c → B) : if decide c = true then A else B := by
  by_cases h : c
  · rw [decide_eq_true h]; exact iteT (h1 h)
  · rw [decide_eq_false h]; exact iteF (h2 h)
theorem iteDN {c A B : Prop} [Decidable c] (h1 : ¬ c → A) (h2 : c → B) : if (!decide c) = true then A else B := by
  by_cases h : c
  · rw [decide_eq_true h]; exact iteF (h2 h)
  · rw [decide_eq_false h]; exact iteT (h1 h)
theorem iteB {b : Bool} {A B : Prop} (h1 : b = true → A) (h2 : b = false → B) : if b = true then A else B := by
  cases b with
  | true => exact iteT (h1 rfl)
  | false => exact iteF (h2 rfl)
/-! ### heaps -/
/-- all but what stands at S is as it was -/
def Keep (S : List Addr) (H H' : Hp) : Prop := ∀ b o, H b = some o → b ∉ S → H' b = some o
theorem Keep.refl {S : List Addr} {H : Hp} : Keep S H H := fun _ _ h _ => h
theorem Keep.trans {S : List Addr} {H H1 H2 : Hp} (a : Keep S H H1) (b : Keep S H1 H2) : Keep S H H2 := fun c o h n => b c o (a c o h n) n
theorem Keep.one {a b : Addr} {H H' : Hp} {o : HO} (k : Keep [a] H H') (h : H b = some o) (n : b ≠ a) : H' b = some o := k b o h (by simpa using n)
theorem Keep.upd {a : Addr} {H H1 : Hp} {o : HO} (k : Keep [a] H H1) : Keep [a] H (L2.upd H1 a o) := fun b u h n => by
  have n' : b ≠ a := by simpa using n
  rw [upd_ne n']; exact k b u h n
theorem Keep.new {S : List Addr} {H H1 : Hp} {p : Addr} {o : HO} (k : Keep S H H1) (hp : H1 p = none) : Keep S H (L2.upd H1 p o) := fun b u h n => by
  have e := k b u h n
  rw [upd_ne (ne_of_none e hp)]; exact e
theorem Keep.of {S : List Addr} {H H' : Hp} (s : Same H H') : Keep S H H' := fun b o h _ => s b o h
theorem Keep.same {H H' : Hp} (k : Keep [] H H') : Same H H' := fun b o h => k b o h (by simp)
theorem _root_.L2.Same.new {H H1 : Hp} {p : Addr} {o : HO} (k : Same H H1) (hp : H1 p = none) : Same H (L2.upd H1 p o) := fun b u h => by
  have e := k b u h
  rw [upd_ne (ne_of_none e hp)]; exact e
theorem upd_new {H : Hp} {p a : Addr} {o u : HO} (hp : H p = none) (h : H a = some u) : L2.upd H p o a = some u := by
  rw [upd_ne (ne_of_none h hp)]; exact h
theorem upd_old {H : Hp} {p a : Addr} {o u : HO} (n : a ≠ p) (h : H a = some u) : L2.upd H p o a = some u := by
  rw [upd_ne n]; exact h
end Z
namespace Z
open PySem PySem.Spec PyProof.Rows L2
/-! ### texts as codes -/
abbrev cl (z : Str) : List Nat := z.cps.toList
theorem cl_len (z : Str) : (cl z).length = z.length := Array.length_toList
end Z
namespace Z
open PySem PySem.Spec PyProof.Rows L2
/-! ### texts: s * n, s[::-1] -/
/-- n times the codes -/
def rep (n : Int) (l : List Nat) : List Nat := (List.replicate n.toNat l).flatten
theorem foldl_arr (l : List Nat) : ∀ (n : Nat) (acc : Array Nat), ((List.replicate n l.toArray).foldl (· ++ ·) acc).toList = acc.toList ++ (List.replicate n l).flatten
  | 0, acc => by simp
  | n + 1, acc => by
    rw [List.replicate_succ, List.foldl_cons, foldl_arr l n, List.replicate_succ, List.flatten_cons]
    simp
theorem mul_cl (x : Str) (n : Int) : cl (Txt.mul x n) = rep n (cl x) := by
  unfold Txt.mul rep
  by_cases h1 : n < 1
  · rw [if_pos h1, show n.toNat = 0 by omega]; rfl
  · rw [if_neg h1]
    by_cases h2 : (n == 1 || x.length == 0) = true
    · rw [if_pos h2]
      rcases Bool.or_eq_true_iff.mp h2 with h3 | h3
      · have e : n = 1 := by simpa using h3
        subst e; simp
      · have e : cl x = [] := List.eq_nil_of_length_eq_zero (by rw [cl_len]; simpa using h3)
        rw [e]; simp
    · rw [if_neg h2]
      have q := foldl_arr (cl x) n.toNat #[]
      simp only [cl, Array.toArray_toList] at q ⊢
      rw [q]; rfl
theorem op_mul_str {X : Cx} : OpR X (binaryOp .Mult) (fun x y H Q => ∃ (z : Str) (n : Int), x = .str z ∧ y = .int n ∧ n ≤ 100000 ∧ -100000 ≤ n ∧ z.length ≤ 100000 ∧ z.length * n.toNat ≤ 16777216 ∧ ∀ y : Str, cl y = rep n (cl z) → Q (.str y) H) := by
  intro pins s σ H x y v u Q I rx ry h
  obtain ⟨z, n, rfl, rfl, h1, h2, h3, h4, q⟩ := h
  obtain ⟨t, rfl⟩ := rx
  obtain ⟨t', rfl⟩ := ry
  refine SB.mul ⟨?_, fun a _ => ?_, fun a _ => ?_⟩ fun t' k => ⟨.str (Txt.mul z n), H, I.tok _, ⟨_, rfl⟩, q _ (mul_cl z n)⟩
  · rw [decide_eq_false (by omega), decide_eq_false (by omega)]; rfl
  · have h5 : (100000 : Int) ≤ (2 ^ 63 - 1) / n := by
      refine Int.le_ediv_of_mul_le (by omega) ?_
      omega
    omega
  · unfold PySem.Builtin.Str.tooLong
    first
      | (refine decide_eq_false ?_; rw [sizeLine_eq]; omega)
      | (simp only [sizeLine_eq]; simp; omega)
def tRevS (te : TE) : TE := fun σ H Q => te σ H fun x H1 => ∃ z, x = .str z ∧ z.length ≤ sizeLine ∧ ∀ y : Str, cl y = (cl z).reverse → Q (.str y) H1
theorem rev_codes (z : Str) (c : Array Nat) (hc : c = z.cps) : (((List.range z.length).map fun k => z.length - 1 - k).filterMap (c[·]?)) = (cl z).reverse := by
  subst hc
  have hl := cl_len z
  rw [PyProof.Rows.filterMap_get _ _ fun i hi => by
    obtain ⟨k, hk, rfl⟩ := List.mem_map.mp hi
    have hk' := List.mem_range.mp hk
    show z.length - 1 - k < z.length
    omega]
  rw [List.map_map]
  refine List.ext_getElem? fun i => ?_
  rw [List.getElem?_map]
  by_cases h : i < z.length
  · rw [List.getElem?_range h, List.getElem?_reverse (by omega), hl]
    show some (z.cps.getD (z.length - 1 - i) 0) = (cl z)[z.length - 1 - i]?
    have h2 : z.length - 1 - i < (cl z).length := by omega
    rw [List.getElem?_eq_getElem h2, Array.getD_eq_getD_getElem?, ← Array.getElem?_toList, List.getElem?_eq_getElem h2]
    rfl
  · have e1 : (List.range z.length)[i]? = none := List.getElem?_eq_none (by rw [List.length_range]; omega)
    have e2 : (cl z).reverse[i]? = none := List.getElem?_eq_none (by rw [List.length_reverse]; omega)
    rw [e1, e2]; rfl
theorem pe_revS {X : Cx} {e : Expr} {te : TE} {k : Nat} {p1 p2 p3 pos : Pos} (he : PE X e te) : PE X (.Subscript e (.Slice none none (some (.UnaryOp .USub (.Constant (.int 1) k p1) p2)) p3) pos) (tRevS te) := by
  refine ⟨fun pins s σ H Q I h => ?_⟩
  refine Subscript_ (thn (he.run pins s σ H _ I h) fun v s1 ⟨x, H1, I1, r1, q1⟩ => ?_)
  obtain ⟨z, ex, hz, q⟩ := q1
  subst ex
  obtain ⟨t, rfl⟩ := r1
  have hst : PO X (some (.UnaryOp .USub (.Constant (.int 1) k p1) p2)) (tPart (tUn (rU fun i => .int (-i)) (tC (.int 1)))) := po_some (pe_un un_neg pe_int)
  refine wpAny_Slice (thn (po_none.run pins s1 σ H1 (fun o H2 => o = none ∧ H2 = H1) I1 ⟨rfl, rfl⟩) fun vl s2 ⟨l, H2, I2, pl, el, e2⟩ => ?_)
  subst el e2
  refine thn (po_none.run pins s2 σ H2 (fun o H3 => o = none ∧ H3 = H2) I2 ⟨rfl, rfl⟩) fun vu s3 ⟨u, H3, I3, pu, eu, e3⟩ => ?_
  subst eu e3
  refine thn (hst.run pins s3 σ H3 (fun o H4 => o = some (-1) ∧ H4 = H3) I3 ⟨1, rfl, -1, rfl, rfl, rfl⟩) fun vs s4 ⟨o, H4, I4, ps, eo, e4⟩ => ?_
  subst eo e4
  have I5 : Inv X pins σ H4 { s4 with heap := s4.heap.push { cls := .type "slice", data := .fields #[vl, vu, vs] } } := I4.kept (t' := s4.toks) fun b ob q => Heap.get?_push_of_some _ q
  show wpAny (model X.prog X.w) X.A (subscriptTail e (.Slice none none (some (.UnaryOp .USub (.Constant (.int 1) k p1) p2)) p3) (.str z t) (.ref s4.heap.objs.size)) (EP X pins σ Q) X.xe { s4 with heap := s4.heap.push { cls := .type "slice", data := .fields #[vl, vu, vs] } }
  cases pl
  cases pu
  cases ps with
  | int i tk =>
  refine tail_any (ops := [.str z t, .ref s4.heap.objs.size]) (typeIs_str _ z t) (F.slot_str_getitem.lookup) ?_ (by with_unfolding_all rfl)
  refine wpAny_getItem_str_slice (l := none) (u := none) (st := some (-1, tk)) ⟨_, Heap.get?_push_size _ rfl, rfl, rfl⟩ rfl ?_
  have e : (slicePicked z none none (some (-1, tk))) = (List.range z.length).map fun k => z.length - 1 - k := PyProof.Rows.picked_rev z.length
  have hf : sliceMade z t none none (some (-1, tk)) = Made.str ⟨((slicePicked z none none (some (-1, tk))).filterMap (z.cps[·]?)).toArray⟩ := by
    unfold sliceMade
    rw [if_neg]
    show ¬ (((-1 : Int) == 1 && _) = true)
    simp
  rw [hf, e, rev_codes z _ rfl]
  have hc : cl ⟨(cl z).reverse.toArray⟩ = (cl z).reverse := by simp
  refine ⟨?_, .str _, H4, I5.tok _, ⟨_, rfl⟩, q _ hc⟩
  show ((cl z).reverse.toArray).size ≤ sizeLine
  rw [List.size_toArray, List.length_reverse, cl_len]
  exact hz
/-! ### small things -/
theorem isi_other {K : PySem.W.Frag} {t : String} (T : String) (h : kitB t T = some false) : PySem.W.kitOne K (.type t) (.type T) = some false := kit_ty h
theorem str_eq {a b : Str} : a = b ↔ cl a = cl b := by
  obtain ⟨a⟩ := a; obtain ⟨b⟩ := b
  constructor
  · intro h; rw [h]
  · intro h
    have : a = b := Array.ext' h
    rw [this]
theorem cl_append (a b : Str) : cl (a ++ b) = cl a ++ cl b := Array.toList_append
theorem len_append (a b : Str) : (a ++ b).length = a.length + b.length := by rw [← cl_len, cl_append, List.length_append, cl_len, cl_len]
end Z
namespace Z
open PySem PySem.Spec PyProof.Rows L2
theorem at_of2 {α : Type} {xs : List α} {r : Int} {v : α} (h0 : 0 ≤ r) (h : xs[r.toNat]? = some v) : atI xs r = some v := by
  have q := atI_nat h
  rwa [Int.toNat_of_nonneg h0] at q
end Z
namespace Z
open PySem PySem.Spec PyProof.Rows L2
theorem at_of3 {H H' : Hp} {p : Addr} {o : HO} (h : L2.upd H p o = H') : H' p = some o := by rw [← h]; exact upd_same
theorem same_of3 {H H' : Hp} {p : Addr} {o : HO} (h : L2.upd H p o = H') (hp : H p = none) : Same H H' := by rw [← h]; exact (Same.refl H).new hp
end Z
namespace Z
open PySem PySem.Spec PyProof.Rows L2
theorem take_more {α : Type} : ∀ {l : List α} {i : Nat} {x : α}, l[i]? = some x → l.take (i + 1) = l.take i ++ [x]
  | [], i, x, h => by simp at h
  | a :: l, 0, x, h => by
    have e : a = x := Option.some.inj h
    subst e
    rfl
  | a :: l, i + 1, x, h => by
    have ih := take_more (l := l) (i := i) (x := x) h
    show a :: l.take (i + 1) = a :: l.take i ++ [x]
    rw [ih]
    rfl
/-- what stood at the start stands, where only what came later is written -/
theorem _root_.L2.Same.keep {H0 H H' : Hp} {b : Addr} (s : Same H0 H) (k : Keep [b] H H') (hb : H0 b = none) : Same H0 H' := fun c o h => k.one (s c o h) (ne_of_none h hb)
theorem frees {H H' : Hp} {p : Addr} (s : Same H H') (h : H' p = none) : H p = none := Same.free s h
end Z
namespace Z
open PySem PySem.Spec PyProof.Rows L2
/-! ### makers, methods -/
def Maker (P : Program) (w : World) (K : PySem.W.Frag) (mg : Str → Option Value) (base : Heap) (CX : CXT) (k : Nat) (x : Str) (sp : Sp) (dvs : List V) : Prop :=
  ∃ (f : Addr) (fd : FuncData) (ps : List Str) (ds : List Value), Mk K (He.ga K x) f ∧ FnOk P w K mg base CX k f fd ps sp ∧ mg x = some (.ref (He.ga K x)) ∧ Binds K fd ps ds ∧ Vals dvs ds
def MethC (P : Program) (w : World) (K : PySem.W.Frag) (mg : Str → Option Value) (base : Heap) (CX : CXT) (k : Nat) (c m : Str) (sp : Sp) (dvs : List V) : Prop :=
  ∃ (f : Addr) (fd : FuncData) (ps : List Str) (ds : List Value), Cls K (He.ga K c) ∧ Meth K (He.ga K c) m f ∧ FnOk P w K mg base CX k f fd ps sp ∧ Binds K fd ps ds ∧ Vals dvs ds
section
variable {X : Cx} {CX : CXT} {k j : Nat} {x m c : Str} {sp : Sp} {dvs : List V} {p pos apos : Pos} {e o : Expr} {es : List Expr} {ta : TE} {t : TA} {E : XK}
theorem pmk (h : Maker X.prog X.w X.K X.mg X.base CX k x sp dvs) (hr : Room j X.A) (hk : k + 1 ≤ j) (hx : Passes CX X E) (hg : Gl X x) (ha : PA X (e :: es) t)
    (hdb : (x == ("__debug__" : Str)) = false := by decide) (he : starEach (e :: es) X.env = (false, eval e X.env) :: starEach es X.env := by rfl) (hpl : (backTo pos (starEach es X.env)).any (·.1) = false := by rfl) :
    PE X (.Call (.Name x p) (e :: es) [] pos) (tMake (He.ga X.K x) sp dvs E t) := by
  obtain ⟨f, fd, ps, ds, M, F, hm, b, d⟩ := h
  exact pe_make M F (hr.mono hk) hg hm b d hx ha hdb he hpl
theorem pmk0 (h : Maker X.prog X.w X.K X.mg X.base CX k x sp dvs) (hr : Room j X.A) (hk : k + 1 ≤ j) (hx : Passes CX X E) (hg : Gl X x)
    (hdb : (x == ("__debug__" : Str)) = false := by decide) : PE X (.Call (.Name x p) [] [] pos) (tMake (He.ga X.K x) sp dvs E tNil) := by
  obtain ⟨f, fd, ps, ds, M, F, hm, b, d⟩ := h
  exact pe_make0 M F (hr.mono hk) hg hm b d hx hdb
theorem pmt {pl : Sem Bool} (h : MethC X.prog X.w X.K X.mg X.base CX k c m sp dvs) (hr : Room j X.A) (hk : k ≤ j) (hx : Passes CX X E) (ho : PE X o ta) (ha : PA X (e :: es) t)
    (hst : starEach (e :: es) X.env = (false, eval e X.env) :: starEach es X.env := by rfl) (hpl : (backTo pos (starEach es X.env)).any (·.1) = false := by rfl)
    (ht : eval (.Call (.Attribute o m apos) (e :: es) [] pos) X.env = (do
      let ov ← eval o X.env
      standAt apos.atName
      let (f, first) ← holding [ov] (getMethod ov m pl)
      callWith pos f first (backTo pos (starEach (e :: es) X.env)) (backToKw pos (keywordEach [] X.env))) := by rfl) :
    PE X (.Call (.Attribute o m apos) (e :: es) [] pos) (tMeth (He.ga X.K c) m sp dvs E ta t) := by
  obtain ⟨f, fd, ps, ds, cl, me, F, b, d⟩ := h
  exact pe_meth ho cl me F (hr.mono hk) b d hx ha hst hpl ht
theorem pmt0 {pl : Sem Bool} (h : MethC X.prog X.w X.K X.mg X.base CX k c m sp dvs) (hr : Room j X.A) (hk : k ≤ j) (hx : Passes CX X E) (ho : PE X o ta)
    (ht : eval (.Call (.Attribute o m apos) [] [] pos) X.env = (do
      let ov ← eval o X.env
      standAt apos.atName
      let (f, first) ← holding [ov] (getMethod ov m pl)
      callWith pos f first (backTo pos (starEach [] X.env)) (backToKw pos (keywordEach [] X.env))) := by rfl) :
    PE X (.Call (.Attribute o m apos) [] [] pos) (tMeth (He.ga X.K c) m sp dvs E ta tNil) := by
  obtain ⟨f, fd, ps, ds, cl, me, F, b, d⟩ := h
  exact pe_meth0 ho cl me F (hr.mono hk) b d hx ht
end
/-! ### tuples of the written part, at any address -/
def tupA (K : PySem.W.Frag) (a : Addr) (vs : List V) : Bool := match K.lookup a with
  | some o => (match o.data with
    | .seq its _ => decide (o.cls = .type "tuple") && (decide (its.size ≤ sizeLine) && He.relAll vs its.toList)
    | _ => false)
  | none => false
theorem tupA_ok {K : PySem.W.Frag} {a : Addr} {vs : List V} (h : tupA K a vs = true) (H : Hp) : SqT K H a vs := by
  unfold tupA at h
  cases q : K.lookup a with
  | none => rw [q] at h; cases h
  | some o =>
    rw [q] at h
    cases z : o.data with
    | seq its n =>
      simp only [z] at h
      obtain ⟨h1, h2⟩ := He.ba h
      obtain ⟨h3, h4⟩ := He.ba h2
      exact .inr ⟨o, its, n, q, of_decide_eq_true h1, z, of_decide_eq_true h3, He.relAll_ok h4⟩
    | _ => simp only [z] at h; cases h
/-! ### what never changes stays -/
/-- tuples, instances, their dicts -/
def immB : HO → Bool
  | .tup _ => true
  | .ins _ _ _ => true
  | .own _ => true
  | .frz _ (.tup _) => true
  | _ => false
def Stay (H H' : Hp) : Prop := ∀ c o, H c = some o → immB o = true → H' c = some o
theorem Stay.refl {H : Hp} : Stay H H := fun _ _ h _ => h
theorem Stay.trans {H H1 H2 : Hp} (a : Stay H H1) (b : Stay H1 H2) : Stay H H2 := fun c o h i => b c o (a c o h i) i
theorem _root_.L2.Same.stay {H H' : Hp} (s : Same H H') : Stay H H' := fun c o h _ => s c o h
theorem Stay.seqT {K : PySem.W.Frag} {H H' : Hp} {a : Addr} {xs : List V} (e : Stay H H') (h : H a = some (.tup xs)) : H' a = some (.tup xs) := e _ _ h rfl
theorem Keep.stay {H H' : Hp} {b : Addr} {xs : List V} (k : Keep [b] H H') (hb : H b = some (.lst xs)) : Stay H H' := fun c o h i => k.one h (ne_of h hb (by intro z; subst z; cases i))
end Z
namespace Z
open PySem PySem.Spec PyProof.Rows L2
/-! ### calls with keywords -/
/-- one item, as a list -/
def pick {α : Type} (i : Nat) (l : List α) : List α := (l.drop i).take 1
theorem vpick {vs : List V} {us : List Value} (i : Nat) (r : Vals vs us) : Vals (pick i vs) (pick i us) := Vals.take 1 (Vals.drop i r)
/-- a def of the module, called with n places and the keywords ks; gV: its parameters' values in order -/
def CalleeK (P : Program) (w : World) (K : PySem.W.Frag) (mg : Str → Option Value) (base : Heap) (CX : CXT) (k : Nat) (x : Str) (sp : Sp) (n : Nat) (ks : List Str) (gV : List V → List V → List V) : Prop :=
  ∃ (fd : FuncData) (ps : List Str) (g : List Value → List Value → List Value), FnOk P w K mg base CX k (He.ga K x) fd ps sp ∧ mg x = some (.ref (He.ga K x)) ∧ PySem.W.keepIn K (.ref (He.ga K x)) = true ∧ KBn K fd ps n ks g gV
def MakerK (P : Program) (w : World) (K : PySem.W.Frag) (mg : Str → Option Value) (base : Heap) (CX : CXT) (k : Nat) (x : Str) (sp : Sp) (n : Nat) (ks : List Str) (gV : List V → List V → List V) : Prop :=
  ∃ (f : Addr) (fd : FuncData) (ps : List Str) (g : List Value → List Value → List Value), Mk K (He.ga K x) f ∧ FnOk P w K mg base CX k f fd ps sp ∧ mg x = some (.ref (He.ga K x)) ∧ KBn K fd ps (n + 1) ks g gV
section
variable {X : Cx} {CX : CXT} {k j n : Nat} {x : Str} {sp : Sp} {ks : List Str} {gV : List V → List V → List V} {p pos : Pos} {e : Expr} {es : List Expr} {kws : List Keyword} {t tk : TA} {E : XK}
theorem pck (c : CalleeK X.prog X.w X.K X.mg X.base CX k x sp n ks gV) (hr : Room j X.A) (hk : k ≤ j) (hx : Passes CX X E) (hg : Gl X x) (ha : PA X (e :: es) t) (hkw : PK X kws tk)
    (hall : (backToKw pos (keywordEach kws X.env)).all (·.1.isSome) = true := by rfl) (hks : (backToKw pos (keywordEach kws X.env)).filterMap (·.1) = ks := by rfl)
    (hdb : (x == ("__debug__" : Str)) = false := by decide) (he : starEach (e :: es) X.env = (false, eval e X.env) :: starEach es X.env := by rfl)
    (hpl : ((backTo pos (starEach (e :: es) X.env)).any (·.1) || (backToKw pos (keywordEach kws X.env)).any (·.1.isNone)) = false := by rfl) :
    PE X (.Call (.Name x p) (e :: es) kws pos) (tCallN n ks.length sp gV E t tk) := by
  obtain ⟨fd, ps, g, F, hm, kp, hb⟩ := c
  exact pe_callN F (hr.mono hk) hg hm kp hb hx ha hkw hall hks hdb he hpl
theorem pck0 (c : CalleeK X.prog X.w X.K X.mg X.base CX k x sp 0 ks gV) (hr : Room j X.A) (hk : k ≤ j) (hx : Passes CX X E) (hg : Gl X x) (hkw : PK X kws tk)
    (hall : (backToKw pos (keywordEach kws X.env)).all (·.1.isSome) = true := by rfl) (hks : (backToKw pos (keywordEach kws X.env)).filterMap (·.1) = ks := by rfl)
    (hdb : (x == ("__debug__" : Str)) = false := by decide)
    (hpl : ((backTo pos (starEach [] X.env)).any (·.1) || (backToKw pos (keywordEach kws X.env)).any (·.1.isNone)) = false := by rfl) :
    PE X (.Call (.Name x p) [] kws pos) (tCallN 0 ks.length sp gV E tNil tk) := by
  obtain ⟨fd, ps, g, F, hm, kp, hb⟩ := c
  refine ⟨fun pins s σ H Q I h => ?_⟩
  refine wpAny_Call_Name_kw (ld_glob I hg hm ?_ hdb)
  refine PySem.W.callWith_KW0 (h₀ := X.base) I.ok.mod.kin kp hall ?_ hpl
  refine thn (hkw.run pos pins s σ H _ I h) fun ws s2 ⟨zs, H2, I2, rz, l1, l2, q2⟩ => ⟨I2.kIn, ?_⟩
  rw [hks]
  exact run_fnN (us := []) (vs := []) F (hr.mono hk) hb hx I2 .nil rz rfl l2 q2
theorem pmkk (c : MakerK X.prog X.w X.K X.mg X.base CX k x sp n ks gV) (hr : Room j X.A) (hk : k + 1 ≤ j) (hx : Passes CX X E) (hg : Gl X x) (ha : PA X (e :: es) t) (hkw : PK X kws tk)
    (hall : (backToKw pos (keywordEach kws X.env)).all (·.1.isSome) = true := by rfl) (hks : (backToKw pos (keywordEach kws X.env)).filterMap (·.1) = ks := by rfl)
    (hdb : (x == ("__debug__" : Str)) = false := by decide) (he : starEach (e :: es) X.env = (false, eval e X.env) :: starEach es X.env := by rfl)
    (hpl : ((backTo pos (starEach (e :: es) X.env)).any (·.1) || (backToKw pos (keywordEach kws X.env)).any (·.1.isNone)) = false := by rfl) :
    PE X (.Call (.Name x p) (e :: es) kws pos) (tMakeN (He.ga X.K x) n ks.length sp gV E t tk) := by
  obtain ⟨f, fd, ps, g, M, F, hm, hb⟩ := c
  exact pe_makeN M F (hr.mono hk) hg hm hb hx ha hkw hall hks hdb he hpl
theorem pmkk0 (c : MakerK X.prog X.w X.K X.mg X.base CX k x sp 0 ks gV) (hr : Room j X.A) (hk : k + 1 ≤ j) (hx : Passes CX X E) (hg : Gl X x) (hkw : PK X kws tk)
    (hall : (backToKw pos (keywordEach kws X.env)).all (·.1.isSome) = true := by rfl) (hks : (backToKw pos (keywordEach kws X.env)).filterMap (·.1) = ks := by rfl)
    (hdb : (x == ("__debug__" : Str)) = false := by decide)
    (hpl : ((backTo pos (starEach [] X.env)).any (·.1) || (backToKw pos (keywordEach kws X.env)).any (·.1.isNone)) = false := by rfl) :
    PE X (.Call (.Name x p) [] kws pos) (tMakeN (He.ga X.K x) 0 ks.length sp gV E tNil tk) := by
  obtain ⟨f, fd, ps, g, M, F, hm, hb⟩ := c
  exact pe_makeK0 M F (hr.mono hk) hg hm hb hx hkw hall hks hdb hpl
end
/-- no keyword, no default lacks -/
theorem kbind_all {K : PySem.W.Frag} {fd : FuncData} {ps ks : List Str} {n : Nat} (g : {α : Type} → List α → List α → List α) (hrel : ∀ {vs zs : List V} {us ws : List Value}, Vals vs us → Vals zs ws → Vals (g vs zs) (g us ws))
    (h : ∀ us ws : List Value, us.length = n → ws.length = ks.length → bindArgs fd ⟨us, ks.zip ws⟩ = pure (ps.zip (g us ws))) : KBn K fd ps n ks (fun us ws => g us ws) (fun vs zs => g vs zs) :=
  ⟨fun _ us ws _ l1 l2 => .of_eq (h us ws l1 l2), fun a b => hrel a b⟩
theorem kbindsA {K : PySem.W.Frag} {x qual : Str} {params : Arguments} {body : List Stmt} {scope : Scope} {f : Addr} {fd : FuncData} {ps ks : List Str} {n : Nat} (F : FunD K x qual params body scope [] [] f fd)
    (g : {α : Type} → List α → List α → List α) (hrel : ∀ {vs zs : List V} {us ws : List Value}, Vals vs us → Vals zs ws → Vals (g vs zs) (g us ws))
    (h : ∀ (kV doc pm : Value) (an : Option Addr) (cdv ct : Value) (us ws : List Value), us.length = n → ws.length = ks.length → bindArgs (PySem.W.fnOf x qual params body scope .none kV doc pm an cdv ct) ⟨us, ks.zip ws⟩ = pure (ps.zip (g us ws))) : KBn K fd ps n ks (fun us ws => g us ws) (fun vs zs => g vs zs) := by
  obtain ⟨oc, od, dV, kV, doc, pm, an, cdv, ct, osl, rfl, lk, hcd, hD, hK⟩ := F.ex
  rcases hD with ⟨_, rfl⟩ | ⟨e, _⟩
  · exact kbind_all g hrel fun us ws l1 l2 => h kV doc pm an cdv ct us ws l1 l2
  · exact absurd rfl e
end Z
namespace Z
open PySem PySem.Spec PyProof.Rows L2
/-! ### isinstance and own classes -/
structure ClsI (K : PySem.W.Frag) (C : Addr) : Prop where
  cls : Cls K C
  ha : PySem.W.findIn K (.ref C) "__class__" = some (some (.builtin "object.__class__"))
  hn : PySem.W.specialIn K (.builtin "object.__class__") "__get__" = some (some (.builtin "getset_descriptor.__get__"))
  htk : PySem.W.takesIn K (.builtin "object.__class__") = some true
  hm : PySem.W.mroIn K C (.type "object") = some true
  ty : ∀ t ∈ ["NoneType", "bool", "int", "str", "list", "tuple", "dict", "float", "set"], PySem.W.kitOne K (.type t) (.ref C) = some false ∧ PySem.W.kitOne K (.ref C) (.type t) = some false
def clsIB (K : PySem.W.Frag) (x : Str) : Bool :=
  (PySem.W.plainGet K (He.ga K x) Str.empty && (PySem.W.hasDictIn K (He.ga K x) && (PySem.W.plainOver K (He.ga K x) && He.eqO (PySem.W.findIn K (.ref (He.ga K x)) "__setattr__") (some (some (.builtin "object.__setattr__")))))) &&
  (He.eqO (PySem.W.findIn K (.ref (He.ga K x)) "__class__") (some (some (.builtin "object.__class__"))) && (He.eqO (PySem.W.specialIn K (.builtin "object.__class__") "__get__") (some (some (.builtin "getset_descriptor.__get__"))) &&
  (decide (PySem.W.takesIn K (.builtin "object.__class__") = some true) && (decide (PySem.W.mroIn K (He.ga K x) (.type "object") = some true) &&
  (["NoneType", "bool", "int", "str", "list", "tuple", "dict", "float", "set"].all fun t => decide (PySem.W.kitOne K (.type t) (.ref (He.ga K x)) = some false) && decide (PySem.W.kitOne K (.ref (He.ga K x)) (.type t) = some false))))))
theorem clsIB_ok {K : PySem.W.Frag} {x : Str} (h : clsIB K x = true) : ClsI K (He.ga K x) := by
  obtain ⟨h0, h⟩ := He.ba h
  obtain ⟨a1, a⟩ := He.ba h0
  obtain ⟨a2, a⟩ := He.ba a
  obtain ⟨a3, a4⟩ := He.ba a
  obtain ⟨h1, h⟩ := He.ba h
  obtain ⟨h2, h⟩ := He.ba h
  obtain ⟨h3, h⟩ := He.ba h
  obtain ⟨h4, h5⟩ := He.ba h
  refine ⟨⟨a1, a2, a3, He.eqO_ok a4⟩, He.eqO_ok h1, He.eqO_ok h2, of_decide_eq_true h3, of_decide_eq_true h4, fun t ht => ?_⟩
  obtain ⟨q1, q2⟩ := He.ba (List.all_eq_true.mp h5 t ht)
  exact ⟨of_decide_eq_true q1, of_decide_eq_true q2⟩
def kcB (K : PySem.W.Frag) (x y : Str) (b : Bool) : Bool := decide (PySem.W.kitOne K (.ref (He.ga K x)) (.ref (He.ga K y)) = some b)
theorem ClsI.at {K : PySem.W.Frag} {C : Addr} (c : ClsI K C) {H : Hp} {a dx : Addr} {fs : List (Str × V)} (h : H a = some (.ins C dx fs)) : TyX K H (.ref a) (.ref C) := .base (.ins h c.cls c.ha c.hn c.htk c.hm)
end Z
namespace Z
open PySem PySem.Spec PyProof.Rows L2
/-! ### sizes, single signs -/
theorem ss : sizeLine = 16777216 := sizeLine_eq
theorem one_nl : ("\n" : Str) = ⟨#[10]⟩ := by decide +kernel
theorem one_bl : (" " : Str) = ⟨#[32]⟩ := by decide +kernel
theorem nil_s : cl ("" : Str) = [] := by decide +kernel
theorem V_one {a b : Nat} : decide (V.str ⟨#[a]⟩ = V.str ⟨#[b]⟩) = decide (a = b) := by
  rw [decide_eq_decide, V.str.injEq, str_eq]; simp
theorem ix_s {z : Str} {r : Int} (h0 : 0 ≤ r) (h1 : r < z.length) : ∃ c, atI z.cps.toList r = some c := by
  have h : r.toNat < (cl z).length := by rw [cl_len]; omega
  exact ⟨_, at_of2 h0 (List.getElem?_eq_getElem h)⟩
theorem len1 (c : Nat) : (⟨#[c]⟩ : Str).length = 1 := rfl
theorem at_all {P : V → Prop} {xs : List V} {r : Int} (h0 : 0 ≤ r) (h1 : r < xs.length) (h : ∀ v ∈ xs, P v) : ∃ v, atI xs r = some v ∧ P v := by
  have hl : r.toNat < xs.length := by omega
  exact ⟨_, at_of2 h0 (List.getElem?_eq_getElem hl), h _ (List.getElem_mem hl)⟩
theorem str_len0 : ("" : Str).length = 0 := by decide +kernel
theorem str_len_b : (" " : Str).length = 1 := by decide +kernel
theorem str_len_n : ("\n" : Str).length = 1 := by decide +kernel
theorem str_len_q : ("\"" : Str).length = 1 := by decide +kernel
theorem line_of {n : Nat} (h : n ≤ 16777216) : n ≤ sizeLine := by rw [ss]; exact h
end Z
namespace Z
open PySem PySem.Spec PyProof.Rows L2
theorem putF_nil (f : Str) (v : V) : putF f v [] = [(f, v)] := rfl
theorem putF_ne {f g : Str} (v x : V) (r : List (Str × V)) (h : g ≠ f) : putF f v ((g, x) :: r) = (g, x) :: putF f v r := by
  show (if g = f then _ else _) = _
  rw [if_neg h]
theorem putF_eq (f : Str) (v x : V) (r : List (Str × V)) : putF f v ((f, x) :: r) = (f, v) :: r := by
  show (if f = f then _ else _) = _
  rw [if_pos rfl]
end Z
namespace Z
open PySem PySem.Spec PyProof.Rows L2
/-! ### parts of texts and lists -/
theorem part_nat {α : Type} (l : List α) (i j : Nat) : (l.drop (min i l.length)).take (min j l.length - min i l.length) = (l.drop i).take (j - i) := by
  by_cases h : i ≤ l.length
  · rw [Nat.min_eq_left h]
    by_cases h2 : j ≤ l.length
    · rw [Nat.min_eq_left h2]
    · rw [Nat.min_eq_right (by omega), List.take_of_length_le (by rw [List.length_drop]; omega), List.take_of_length_le (by rw [List.length_drop]; omega)]
  · rw [show l.drop i = [] from List.drop_eq_nil_of_le (by omega), List.drop_eq_nil_of_le (by omega)]
    simp
theorem cut_nat (z : Str) (i j : Nat) : cl (cutS z (some (i : Int)) (some (j : Int))) = ((cl z).drop i).take (j - i) := by
  show (((cl z).drop (HT.sIx z.length 0 (some (i : Int)))).take (HT.sIx z.length z.length (some (j : Int)) - HT.sIx z.length 0 (some (i : Int)))) = _
  rw [HT.sIx_nat, HT.sIx_nat, ← cl_len, part_nat]
theorem cut_to (z : Str) (j : Nat) : cl (cutS z none (some (j : Int))) = (cl z).take j := by
  show (((cl z).drop 0).take (HT.sIx z.length z.length (some (j : Int)) - 0)) = _
  rw [HT.sIx_nat, ← cl_len, List.drop_zero, Nat.sub_zero]
  by_cases h : j ≤ (cl z).length
  · rw [Nat.min_eq_left h]
  · rw [Nat.min_eq_right (by omega), List.take_of_length_le (Nat.le_refl _), List.take_of_length_le (by omega)]
theorem cut_from (z : Str) (i : Nat) : cl (cutS z (some (i : Int)) none) = (cl z).drop i := by
  show (((cl z).drop (HT.sIx z.length 0 (some (i : Int)))).take (z.length - HT.sIx z.length 0 (some (i : Int)))) = _
  rw [HT.sIx_nat, ← cl_len]
  by_cases h : i ≤ (cl z).length
  · rw [Nat.min_eq_left h, List.take_of_length_le (by rw [List.length_drop]; omega)]
  · rw [Nat.min_eq_right (by omega), show (cl z).drop i = [] from List.drop_eq_nil_of_le (by omega), List.drop_eq_nil_of_le (Nat.le_refl _), List.take_nil]
theorem cut_eq {a : Str} {l : List Nat} (h : cl a = l) : a = ⟨l.toArray⟩ := by rw [str_eq, h]
end Z
namespace Z
open PySem PySem.Spec PyProof.Rows L2
theorem Stay.updL {H H1 : Hp} {D : Addr} {xs : List V} {o : HO} (s : Stay H H1) (h : H1 D = some (.lst xs)) : Stay H (L2.upd H1 D o) := fun c u e i => by
  have q := s c u e i
  rw [upd_ne (ne_of q h (by intro z; subst z; cases i))]
  exact q
theorem Stay.new {H H1 : Hp} {D : Addr} {o : HO} (s : Stay H H1) (h : H1 D = none) : Stay H (L2.upd H1 D o) := fun c u e i => by
  have q := s c u e i
  rw [upd_ne (ne_of_none q h)]
  exact q
/-- a list made since H0 is written -/
theorem _root_.L2.Same.upd {H0 H : Hp} {b : Addr} {o : HO} (s : Same H0 H) (hb : H0 b = none) : Same H0 (L2.upd H b o) := s.keep Keep.refl.upd hb
end Z
namespace Z
open PySem PySem.Spec PyProof.Rows L2
theorem sqT_ty {K : PySem.W.Frag} {H : Hp} {a : Addr} {xs : List V} (h : SqT K H a xs) : TyX K H (.ref a) (.type "tuple") := by
  rcases h with (h | ⟨o, h⟩) | ⟨o, its, n, e, c, _⟩
  · exact .base (.tup h)
  · exact .fTuple h
  · exact .kTuple e c
end Z
namespace Z
open PySem PySem.Spec PyProof.Rows L2
theorem V_nil {a : Str} : decide (V.str a = V.str ("" : Str)) = decide (cl a = []) := by
  rw [decide_eq_decide, V.str.injEq, str_eq, nil_s]
theorem V_str {a b : Str} : decide (V.str a = V.str b) = decide (cl a = cl b) := by
  rw [decide_eq_decide, V.str.injEq, str_eq]
end Z
namespace Z
open PySem PySem.Spec PyProof.Rows L2
/-- a statement ends in I; from I the rest goes on -/
theorem seq_cut {a b : TS} {D : Ends} {σ : L2.St} {H : Hp} (I : L2.St → Hp → Prop) (hb : ∀ σ' H', I σ' H' → b D σ' H') (ha : ∀ F : L2.St → Hp → Prop, (∀ σ' H', I σ' H' → F σ' H') → a { D with nx := F } σ H) : tSeq a b D σ H := ha _ hb
theorem V_q {c : Nat} : decide (V.str ⟨#[c]⟩ = V.str ("\"" : Str)) = decide (c = 34) := by rw [show ("\"" : Str) = ⟨#[34]⟩ by decide +kernel, V_one]
theorem V_b {c : Nat} : decide (V.str ⟨#[c]⟩ = V.str (" " : Str)) = decide (c = 32) := by rw [one_bl, V_one]
end Z
namespace Z
open PySem PySem.Spec PyProof.Rows L2
theorem step_asgC {v : V} {i : Nat} {b : TS} {D : Ends} {σ : L2.St} {H : Hp} (h : b D (σ.set i (some v)) H) : tSeq (tAsg (tC v) (gName i)) b D σ H := h
end Z

set_option Elab.async false
set_option linter.all false
set_option maxRecDepth 100000
set_option maxHeartbeats 4000000
/-! tokens: plain functions over lists of codes -/
namespace Z
open PySem PySem.Spec PyProof.Rows L2
/-! ### signs -/
def LL : List Nat := ("abcdefghijklmnopqrstuvwxyzABCDEFGHIJKLMNOPQRSTUVWXYZ" : Str).cps.toList
def FF : List Nat := ("0123456789" : Str).cps.toList
def isL (c : Nat) : Bool := decide (c ∈ LL)
def isF (c : Nat) : Bool := decide (c ∈ FF)
def isLF (c : Nat) : Bool := isL c || isF c
theorem LF_mem (c : Nat) : isLF c = decide (c ∈ ("abcdefghijklmnopqrstuvwxyzABCDEFGHIJKLMNOPQRSTUVWXYZ0123456789" : Str).cps.toList) := by
  have e : ("abcdefghijklmnopqrstuvwxyzABCDEFGHIJKLMNOPQRSTUVWXYZ0123456789" : Str).cps.toList = LL ++ FF := by decide +kernel
  rw [e]
  unfold isLF isL isF
  simp only [List.mem_append, Bool.decide_or]
/-- how many letters and figures stand ahead -/
def wE (l : List Nat) : Nat := (l.takeWhile isLF).length
theorem wE_le (l : List Nat) : wE l ≤ l.length := by
  unfold wE
  exact List.IsPrefix.length_le (List.takeWhile_prefix _)
theorem wE_pos {c : Nat} {r : List Nat} (h : isLF c = true) : wE (c :: r) = wE r + 1 := by
  unfold wE
  rw [List.takeWhile_cons_of_pos h, List.length_cons]
theorem wE_neg {c : Nat} {r : List Nat} (h : ¬ isLF c = true) : wE (c :: r) = 0 := by
  unfold wE
  rw [List.takeWhile_cons_of_neg h]
  rfl
theorem wE_all {l : List Nat} : wE l = l.length ↔ l.all isLF = true := by
  induction l with
  | nil => simp [wE]
  | cons c r ih =>
    by_cases h : isLF c = true
    · rw [wE_pos h, List.length_cons, List.all_cons, h, Bool.true_and, ← ih]; omega
    · rw [wE_neg h, List.length_cons, List.all_cons, Bool.not_eq_true _ |>.mp h, Bool.false_and]
      constructor
      · intro e; omega
      · intro e; cases e
def prs : List (List Nat) := [[61, 61], [33, 61], [60, 61], [62, 61], [38, 38], [124, 124], [45, 62]]
/-- the place of the first quote -/
def qAt : List Nat → Option Nat
  | [] => none
  | c :: r => if c = 34 then some 0 else (qAt r).map (· + 1)
theorem qAt_none : ∀ {l : List Nat}, (∀ v, v < l.length → l.getD v 0 ≠ 34) → qAt l = none
  | [], _ => rfl
  | c :: r, h => by
    have h0 : c ≠ 34 := h 0 (by simp)
    unfold qAt
    rw [if_neg h0, qAt_none (l := r) fun v hv => by
      have := h (v + 1) (by simpa using hv)
      simpa using this]
    rfl
theorem qAt_some : ∀ {l : List Nat} {k : Nat}, k < l.length → l.getD k 0 = 34 → (∀ v, v < k → l.getD v 0 ≠ 34) → qAt l = some k
  | [], k, h, _, _ => by simp at h
  | c :: r, 0, _, e, _ => by
    have e' : c = 34 := by simpa using e
    unfold qAt
    rw [if_pos e']
  | c :: r, k + 1, h, e, n => by
    have h0 : c ≠ 34 := by simpa using n 0 (by omega)
    unfold qAt
    rw [if_neg h0, qAt_some (l := r) (k := k) (by simpa using h) (by simpa using e) fun v hv => by simpa using n (v + 1) (by omega)]
    rfl
theorem qAt_lt : ∀ {l : List Nat} {k : Nat}, qAt l = some k → k < l.length
  | [], k, h => by cases h
  | c :: r, k, h => by
    unfold qAt at h
    by_cases e : c = 34
    · rw [if_pos e] at h; cases h; simp
    · rw [if_neg e] at h
      cases q : qAt r with
      | none => rw [q] at h; cases h
      | some j =>
        rw [q] at h
        have : j + 1 = k := by simpa using h
        have := qAt_lt q
        simp only [List.length_cons]; omega
/-- how long the token is that begins the list -/
def tokLen : List Nat → Option Nat
  | [] => some 0
  | c :: r => if c = 34 then (qAt r).map (· + 2) else if isLF c = true then some (wE r + 1) else if (c :: r).take 2 ∈ prs then some 2 else some 1
theorem tokLen_cons (c : Nat) (r : List Nat) : tokLen (c :: r) = if c = 34 then (qAt r).map (· + 2) else if isLF c = true then some (wE r + 1) else if (c :: r).take 2 ∈ prs then some 2 else some 1 := rfl
def isTok (l : List Nat) : Bool := match l with
  | [] => false
  | c :: r => decide (c ≠ 32) && (decide (10 ∉ c :: r) && decide (tokLen (c :: r) = some (r.length + 1)))
/-- what the law's own look tells -/
def due (l : List Nat) : Bool := match l with
  | [] => false
  | c :: r => decide (10 ∉ c :: r) && (if isLF c = true then (c :: r).all isLF else if c = 34 then decide (r.length + 1 > 1) && (decide ((c :: r).count 34 = 2) && decide ((c :: r).getLastD 0 = 34)) else if r.length = 0 then decide (c ≠ 32) else decide (c :: r ∈ prs))
theorem prs_len {l : List Nat} (h : l ∈ prs) : l.length = 2 := by
  revert l; decide
theorem prs_blank {c : Nat} {r : List Nat} (h : c :: r ∈ prs) : c ≠ 32 := by
  intro e; subst e
  simp [prs] at h
theorem qAt_end : ∀ r : List Nat, qAt r = some (r.length - 1) ∧ r ≠ [] ↔ r.count 34 = 1 ∧ r.getLastD 0 = 34
  | [] => by simp
  | [c] => by
    by_cases e : c = 34
    · subst e; simp [qAt]
    · simp [qAt, e]
  | c :: d :: r => by
    have ih := qAt_end (d :: r)
    by_cases e : c = 34
    · subst e
      have h1 : qAt (34 :: d :: r) = some 0 := by unfold qAt; rw [if_pos rfl]
      rw [h1]
      simp only [List.length_cons, Option.some.injEq, ne_eq, reduceCtorEq, not_false_eq_true, and_true, List.count_cons_self]
      constructor
      · intro h; omega
      · rintro ⟨h2, h3⟩
        have h4 : List.count 34 (d :: r) = 0 := by omega
        have h5 : 34 ∉ d :: r := List.count_eq_zero.mp h4
        have h6 : (d :: r).getLastD 0 ∈ d :: r := by
          rw [List.getLastD_eq_getLast?, List.getLast?_eq_some_getLast (by simp)]
          exact List.getLast_mem _
        have h7 : (34 :: d :: r).getLastD 0 = (d :: r).getLastD 0 := by simp [List.getLastD]
        rw [← h7, h3] at h6
        exact absurd h6 h5
    · have h1 : qAt (c :: d :: r) = (qAt (d :: r)).map (· + 1) := by conv => lhs; unfold qAt; rw [if_neg e]
      have h7 : (c :: d :: r).getLastD 0 = (d :: r).getLastD 0 := by simp [List.getLastD]
      rw [h1, h7, List.count_cons_of_ne (Ne.symm (Ne.symm e)), ← ih]
      constructor
      · rintro ⟨h2, _⟩
        refine ⟨?_, by simp⟩
        cases q : qAt (d :: r) with
        | none => rw [q] at h2; cases h2
        | some k =>
          rw [q] at h2
          simp only [Option.map_some, Option.some.injEq, List.length_cons] at h2 ⊢
          omega
      · rintro ⟨h2, _⟩
        rw [h2]
        refine ⟨?_, by simp⟩
        simp only [Option.map_some, Option.some.injEq, List.length_cons]
        omega
theorem due_tok (l : List Nat) : isTok l = due l := by
  cases l with
  | nil => rfl
  | cons c r =>
    show (decide (c ≠ 32) && (decide (10 ∉ c :: r) && decide (tokLen (c :: r) = some (r.length + 1)))) = (decide (10 ∉ c :: r) && _)
    by_cases h10 : 10 ∉ c :: r
    · rw [decide_eq_true h10, Bool.true_and, Bool.true_and]
      by_cases hl : isLF c = true
      · have h32 : c ≠ 32 := by rintro rfl; revert hl; decide +kernel
        have h34 : c ≠ 34 := by rintro rfl; revert hl; decide +kernel
        rw [if_pos hl, decide_eq_true h32, Bool.true_and]
        have e : tokLen (c :: r) = some (wE r + 1) := by rw [tokLen_cons, if_neg h34, if_pos hl]
        rw [e, List.all_cons, hl, Bool.true_and]
        have q := wE_all (l := r)
        cases a : r.all isLF with
        | true => rw [q.mpr a]; simp
        | false =>
          refine decide_eq_false fun z => ?_
          have z2 : wE r = r.length := by simpa using z
          rw [q.mp z2] at a; cases a
      · rw [if_neg hl]
        by_cases h34 : c = 34
        · subst h34
          rw [if_pos rfl, decide_eq_true (by decide), Bool.true_and]
          have e : tokLen (34 :: r) = (qAt r).map (· + 2) := by rw [tokLen_cons, if_pos rfl]
          rw [e]
          have q := qAt_end r
          cases r with
          | nil => rfl
          | cons d s =>
            have h7 : (34 :: d :: s).getLastD 0 = (d :: s).getLastD 0 := by simp [List.getLastD]
            rw [h7, List.count_cons_self]
            have hp : decide ((d :: s).length + 1 > 1) = true := decide_eq_true (by simp)
            rw [hp, Bool.true_and, ← Bool.decide_and, decide_eq_decide]
            have q2 : (qAt (d :: s)).map (· + 2) = some ((d :: s).length + 1) ↔ qAt (d :: s) = some ((d :: s).length - 1) ∧ d :: s ≠ [] := by
              cases z : qAt (d :: s) with
              | none => simp
              | some k => simp only [Option.map_some, Option.some.injEq, List.length_cons, ne_eq, reduceCtorEq, not_false_eq_true, and_true]; omega
            rw [q2, q]
            constructor
            · rintro ⟨a, b⟩; exact ⟨by omega, b⟩
            · rintro ⟨a, b⟩; exact ⟨by omega, b⟩
        · rw [if_neg h34]
          have e : tokLen (c :: r) = if (c :: r).take 2 ∈ prs then some 2 else some 1 := by rw [tokLen_cons, if_neg h34, if_neg hl]
          rw [e]
          by_cases hp : (c :: r).take 2 ∈ prs
          · rw [if_pos hp]
            have hln := prs_len hp
            have hb : c ≠ 32 := by
              rw [List.take_succ_cons] at hp
              exact prs_blank hp
            rw [decide_eq_true hb, Bool.true_and]
            cases r with
            | nil => simp at hln
            | cons d s =>
              rw [if_neg (by simp)]
              cases s with
              | nil =>
                have hp' : [c, d] ∈ prs := hp
                rw [decide_eq_true hp']; rfl
              | cons x y =>
                have n1 : ¬ (c :: d :: x :: y) ∈ prs := fun z => by
                  have := prs_len z
                  simp at this
                rw [decide_eq_false n1]
                refine decide_eq_false fun z => ?_
                simp at z
          · rw [if_neg hp]
            cases r with
            | nil => simp
            | cons d s =>
              rw [if_neg (by simp)]
              have n1 : ¬ (c :: d :: s) ∈ prs := fun z => by
                have h2 := prs_len z
                have h3 : s = [] := by simpa using h2
                subst h3
                exact hp z
              rw [decide_eq_false n1]
              simp
    · rw [decide_eq_false h10, Bool.false_and, Bool.false_and, Bool.and_false]
end Z

set_option Elab.async false
set_option linter.all false
set_option maxRecDepth 100000
set_option maxHeartbeats 4000000
/-! == and != of data: flat values, lists, tuples, at any depth, any answer -/
namespace Z
open PySem PySem.Spec PyProof.Rows L2
def SeqE (E : V → V → Bool → Prop) (xs ys : List V) (b : Bool) : Prop :=
  ∃ e : Nat → Bool, (∀ j x y, xs[j]? = some x → ys[j]? = some y → E x y (e j)) ∧ b = ((List.range (min xs.length ys.length)).all e && decide (xs.length = ys.length))
def EqT (K : PySem.W.Frag) (H : Hp) (E : V → V → Bool → Prop) (x y : V) (b : Bool) : Prop :=
  (∃ a c xs ys, x = .ref a ∧ y = .ref c ∧ SqL K H a xs ∧ SqL K H c ys ∧ ((xs.length ≠ ys.length ∧ b = false) ∨ SeqE E xs ys b)) ∨
  (∃ a c xs ys, x = .ref a ∧ y = .ref c ∧ SqT K H a xs ∧ SqT K H c ys ∧ SeqE E xs ys b) ∨
  (∃ a c xs ys, x = .ref a ∧ y = .ref c ∧ SqL K H a xs ∧ SqT K H c ys ∧ b = false) ∨
  (∃ a c xs ys, x = .ref a ∧ y = .ref c ∧ SqT K H a xs ∧ SqL K H c ys ∧ b = false) ∨
  (∃ a xs, x = .ref a ∧ (SqL K H a xs ∨ SqT K H a xs) ∧ flatV y = true ∧ b = false) ∨
  (∃ c ys, y = .ref c ∧ (SqL K H c ys ∨ SqT K H c ys) ∧ flatV x = true ∧ b = false)
def EqW (K : PySem.W.Frag) (H : Hp) : Nat → V → V → Bool → Prop
  | 0 => fun x y b => (flatV x = true ∧ flatV y = true ∧ b = eqV x y) ∨ (∃ a, x = .ref a ∧ y = .ref a ∧ b = true)
  | n + 1 => fun x y b => (flatV x = true ∧ flatV y = true ∧ b = eqV x y) ∨ (∃ a, x = .ref a ∧ y = .ref a ∧ b = true) ∨ EqT K H (EqW K H n) x y b
theorem EqW.flat {K : PySem.W.Frag} {H : Hp} {n : Nat} {x y : V} (hx : flatV x = true) (hy : flatV y = true) : EqW K H n x y (eqV x y) := by
  cases n with
  | zero => exact .inl ⟨hx, hy, rfl⟩
  | succ n => exact .inl ⟨hx, hy, rfl⟩
theorem EqW.same {K : PySem.W.Frag} {H : Hp} {n : Nat} {a : Addr} : EqW K H n (.ref a) (.ref a) true := by
  cases n with
  | zero => exact .inr ⟨a, rfl, rfl, rfl⟩
  | succ n => exact .inr (.inl ⟨a, rfl, rfl, rfl⟩)
theorem eqV_self {x : V} (h : flatV x = true) : eqV x x = true := by
  cases x <;> first | rfl | (simp [eqV]; done) | (simp [flatV] at h)
section
variable {X : Cx} {pins : List (Addr × Obj)} {σ : L2.St} {H : Hp} {s : Shared}
theorem rc_flat {A : Around} {x y : V} {v u : Value} (hx : flatV x = true) (hy : flatV y = true) (rx : RelV x v) (ry : RelV y u) : SeqAt.RcAt A s v u (eqV x y) ∧ SeqAt.RcNeAt A s v u (!eqV x y) := by
  cases x with
  | non =>
    cases rx
    cases y with
    | non => cases ry; exact ⟨fun _ _ _ _ h => PySem.EqNone.eq_none_none h, .none_none⟩
    | bl b => cases ry; exact ⟨fun _ _ _ _ h => PySem.EqNone.eq_none_bool h, .none_bool b⟩
    | int j => obtain ⟨t, rfl⟩ := ry; exact ⟨fun _ _ _ _ h => PySem.EqNone.eq_none_int h, .none_int j t⟩
    | str j => obtain ⟨t, rfl⟩ := ry; exact ⟨fun _ _ _ _ h => PySem.EqNone.eq_none_str h, .none_str j t⟩
    | _ => cases hy
  | bl a =>
    cases rx
    cases y with
    | non => cases ry; exact ⟨fun _ _ _ _ h => PySem.EqNone.eq_bool_none h, .bool_none a⟩
    | bl b => cases ry; exact ⟨fun _ _ _ _ h => eq_bool h, .bool_bool a b⟩
    | int j => obtain ⟨t, rfl⟩ := ry; exact ⟨SeqAt.RcAt.bool_int a j t, .bool_int a j t⟩
    | str j => obtain ⟨t, rfl⟩ := ry; exact ⟨fun _ _ _ _ h => PySem.EqMixed.eq_bool_str h, .bool_str a j t⟩
    | _ => cases hy
  | int i =>
    obtain ⟨k, rfl⟩ := rx
    cases y with
    | non => cases ry; exact ⟨fun _ _ _ _ h => PySem.EqNone.eq_int_none h, .int_none i k⟩
    | bl b => cases ry; exact ⟨SeqAt.RcAt.int_bool i k b, .int_bool i k b⟩
    | int j => obtain ⟨t, rfl⟩ := ry; exact ⟨fun _ _ _ _ h => eq_int h, .int_int i k j t⟩
    | str j => obtain ⟨t, rfl⟩ := ry; exact ⟨fun _ _ _ _ h => PySem.EqMixed.eq_int_str h, .int_str i k j t⟩
    | _ => cases hy
  | str i =>
    obtain ⟨k, rfl⟩ := rx
    cases y with
    | non => cases ry; exact ⟨fun _ _ _ _ h => PySem.EqNone.eq_str_none h, .str_none i k⟩
    | bl b => cases ry; exact ⟨fun _ _ _ _ h => PySem.EqMixed.eq_str_bool h, .str_bool i k b⟩
    | int j => obtain ⟨t, rfl⟩ := ry; exact ⟨fun _ _ _ _ h => PySem.EqMixed.eq_str_int h, .str_int i k j t⟩
    | str j => obtain ⟨t, rfl⟩ := ry; exact ⟨fun _ _ _ _ h => eq_str h, .str_str i k j t⟩
    | _ => cases hy
  | _ => cases hx
theorem items_at {A : Around} {E : V → V → Bool → Prop} (ih : ∀ x y b v u, E x y b → RelV x v → RelV y u → SeqAt.EqAt A s v u b) {xs ys : List V} {us ws : List Value} (r1 : Vals xs us) (r2 : Vals ys ws) {e : Nat → Bool}
    (h : ∀ j x y, xs[j]? = some x → ys[j]? = some y → E x y (e j)) : ∀ j (h1 : j < us.toArray.size) (h2 : j < ws.toArray.size), SeqAt.EqAt A s us.toArray[j] ws.toArray[j] (e j) := fun j h1 h2 => by
  have l1 := r1.length
  have l2 := r2.length
  have k1 : j < xs.length := by simpa [l1] using h1
  have k2 : j < ys.length := by simpa [l2] using h2
  have g1 : xs[j]? = some xs[j] := List.getElem?_eq_getElem k1
  have g2 : ys[j]? = some ys[j] := List.getElem?_eq_getElem k2
  obtain ⟨u1, a1, b1⟩ := Vals.get r1 g1
  obtain ⟨u2, a2, b2⟩ := Vals.get r2 g2
  have h1' : j < us.length := by simpa using h1
  have h2' : j < ws.length := by simpa using h2
  have c1 : us.toArray[j] = u1 := by rw [List.getElem?_eq_getElem h1'] at a1; simpa using a1
  have c2 : ws.toArray[j] = u2 := by rw [List.getElem?_eq_getElem h2'] at a2; simpa using a2
  rw [c1, c2]
  exact ih _ _ _ _ _ (h j _ _ g1 g2) b1 b2
theorem isT {h : Heap} {a : Addr} {its : Array Value} (t : IsTup h a its) : h.IsTuple a its := t
theorem eqT_rc (I : Inv X pins σ H s) {A : Around} {E : V → V → Bool → Prop} (hu : A.units < cLine) (ih : ∀ x y b v u, E x y b → RelV x v → RelV y u → SeqAt.EqAt A.in1 s v u b) {x y : V} {b : Bool} {v u : Value}
    (h : EqT X.K H E x y b) (rx : RelV x v) (ry : RelV y u) : SeqAt.RcAt A s v u b ∧ SeqAt.RcNeAt A s v u (!b) := by
  rcases h with ⟨a, c, xs, ys, rfl, rfl, ha, hc, h⟩ | ⟨a, c, xs, ys, rfl, rfl, ha, hc, e, he, rfl⟩ | ⟨a, c, xs, ys, rfl, rfl, ha, hc, rfl⟩ | ⟨a, c, xs, ys, rfl, rfl, ha, hc, rfl⟩ | ⟨a, xs, rfl, ha, fy, rfl⟩ | ⟨c, ys, rfl, hc, fx, rfl⟩
  · cases (show v = Value.ref a from rx)
    cases (show u = Value.ref c from ry)
    obtain ⟨us, r1, p1, _⟩ := I.list ha
    obtain ⟨ws, r2, p2, _⟩ := I.list hc
    have l1 := r1.length
    have l2 := r2.length
    rcases h with ⟨hl, rfl⟩ | ⟨e, he, rfl⟩
    · have hsz : (us.toArray.size != ws.toArray.size) = true := by
        rw [bne_iff_ne, List.size_toArray, List.size_toArray, ← l1, ← l2]; exact hl
      exact ⟨.lists_lengths p1.isList p2.isList hsz hu, .lists_lengths p1.isList p2.isList hsz hu⟩
    · by_cases hl : xs.length = ys.length
      · have hsz : us.toArray.size = ws.toArray.size := by rw [List.size_toArray, List.size_toArray, ← l1, ← l2]; exact hl
        have q := items_at ih r1 r2 he
        have e1 : (List.range us.toArray.size).all e = ((List.range (min xs.length ys.length)).all e && decide (xs.length = ys.length)) := by
          rw [decide_eq_true hl, Bool.and_true, List.size_toArray, ← l1, Nat.min_eq_left (Nat.le_of_eq hl)]
        rw [← e1]
        exact ⟨.lists p1.isList p2.isList hsz hu q, .lists p1.isList p2.isList hsz hu q⟩
      · have hsz : (us.toArray.size != ws.toArray.size) = true := by
          rw [bne_iff_ne, List.size_toArray, List.size_toArray, ← l1, ← l2]; exact hl
        rw [decide_eq_false hl, Bool.and_false]
        exact ⟨.lists_lengths p1.isList p2.isList hsz hu, .lists_lengths p1.isList p2.isList hsz hu⟩
  · cases (show v = Value.ref a from rx)
    cases (show u = Value.ref c from ry)
    obtain ⟨us, r1, p1, _⟩ := I.tuple ha
    obtain ⟨ws, r2, p2, _⟩ := I.tuple hc
    have l1 := r1.length
    have l2 := r2.length
    have q := items_at ih r1 r2 he
    have e1 : ((List.range (min us.toArray.size ws.toArray.size)).all e && us.toArray.size == ws.toArray.size) = ((List.range (min xs.length ys.length)).all e && decide (xs.length = ys.length)) := by
      rw [List.size_toArray, List.size_toArray, ← l1, ← l2]
      rfl
    rw [← e1]
    exact ⟨.tuples (isT p1) (isT p2) hu q, .tuples (isT p1) (isT p2) hu q⟩
  · cases (show v = Value.ref a from rx)
    cases (show u = Value.ref c from ry)
    obtain ⟨us, r1, p1, _⟩ := I.list ha
    obtain ⟨ws, r2, p2, _⟩ := I.tuple hc
    exact ⟨.list_tuple p1.isList (isT p2) hu, .list_tuple p1.isList (isT p2) hu⟩
  · cases (show v = Value.ref a from rx)
    cases (show u = Value.ref c from ry)
    obtain ⟨us, r1, p1, _⟩ := I.tuple ha
    obtain ⟨ws, r2, p2, _⟩ := I.list hc
    exact ⟨.tuple_list (isT p1) p2.isList hu, .tuple_list (isT p1) p2.isList hu⟩
  · cases (show v = Value.ref a from rx)
    rcases ha with ha | ha
    · obtain ⟨us, r1, p1, _⟩ := I.list ha
      cases y with
      | non => cases ry; exact ⟨.list_none p1.isList hu, .list_none p1.isList hu⟩
      | bl b => cases ry; exact ⟨.list_bool b p1.isList hu, .list_bool b p1.isList hu⟩
      | int j => obtain ⟨t, rfl⟩ := ry; exact ⟨.list_int j t p1.isList hu, .list_int j t p1.isList hu⟩
      | str j => obtain ⟨t, rfl⟩ := ry; exact ⟨.list_str j t p1.isList hu, .list_str j t p1.isList hu⟩
      | _ => cases fy
    · obtain ⟨us, r1, p1, _⟩ := I.tuple ha
      cases y with
      | non => cases ry; exact ⟨.tuple_none (isT p1) hu, .tuple_none (isT p1) hu⟩
      | bl b => cases ry; exact ⟨.tuple_bool b (isT p1) hu, .tuple_bool b (isT p1) hu⟩
      | int j => obtain ⟨t, rfl⟩ := ry; exact ⟨.tuple_int j t (isT p1) hu, .tuple_int j t (isT p1) hu⟩
      | str j => obtain ⟨t, rfl⟩ := ry; exact ⟨.tuple_str j t (isT p1) hu, .tuple_str j t (isT p1) hu⟩
      | _ => cases fy
  · cases (show u = Value.ref c from ry)
    rcases hc with hc | hc
    · obtain ⟨us, r1, p1, _⟩ := I.list hc
      cases x with
      | non => cases rx; exact ⟨.none_list p1.isList hu, .none_list p1.isList hu⟩
      | bl b => cases rx; exact ⟨.bool_list b p1.isList hu, .bool_list b p1.isList hu⟩
      | int j => obtain ⟨t, rfl⟩ := rx; exact ⟨.int_list j t p1.isList hu, .int_list j t p1.isList hu⟩
      | str j => obtain ⟨t, rfl⟩ := rx; exact ⟨.str_list j t p1.isList hu, .str_list j t p1.isList hu⟩
      | _ => cases fx
    · obtain ⟨us, r1, p1, _⟩ := I.tuple hc
      cases x with
      | non => cases rx; exact ⟨.none_tuple (isT p1) hu, .none_tuple (isT p1) hu⟩
      | bl b => cases rx; exact ⟨.bool_tuple b (isT p1) hu, .bool_tuple b (isT p1) hu⟩
      | int j => obtain ⟨t, rfl⟩ := rx; exact ⟨.int_tuple j t (isT p1) hu, .int_tuple j t (isT p1) hu⟩
      | str j => obtain ⟨t, rfl⟩ := rx; exact ⟨.str_tuple j t (isT p1) hu, .str_tuple j t (isT p1) hu⟩
      | _ => cases fx
theorem at_of_rc {A : Around} {x y : V} {b : Bool} {v u : Value} (I : Inv X pins σ H s) (hu : A.units < cLine) {E : V → V → Bool → Prop} (ih : ∀ x y b v u, E x y b → RelV x v → RelV y u → SeqAt.EqAt A.in1 s v u b)
    (h : EqT X.K H E x y b) (hs : ∀ a, ¬ (x = .ref a ∧ y = .ref a)) (rx : RelV x v) (ry : RelV y u) : SeqAt.EqAt A s v u b := by
  have rc := (eqT_rc I hu ih h rx ry).1
  rcases h with ⟨a, c, _, _, rfl, rfl, _⟩ | ⟨a, c, _, _, rfl, rfl, _⟩ | ⟨a, c, _, _, rfl, rfl, _⟩ | ⟨a, c, _, _, rfl, rfl, _⟩ | ⟨a, _, rfl, ha, fy, rfl⟩ | ⟨c, _, rfl, hc, fx, rfl⟩
  · cases (show v = Value.ref a from rx)
    cases (show u = Value.ref c from ry)
    exact .of_refs (fun e => hs a ⟨rfl, by rw [e]⟩) rc
  · cases (show v = Value.ref a from rx)
    cases (show u = Value.ref c from ry)
    exact .of_refs (fun e => hs a ⟨rfl, by rw [e]⟩) rc
  · cases (show v = Value.ref a from rx)
    cases (show u = Value.ref c from ry)
    exact .of_refs (fun e => hs a ⟨rfl, by rw [e]⟩) rc
  · cases (show v = Value.ref a from rx)
    cases (show u = Value.ref c from ry)
    exact .of_refs (fun e => hs a ⟨rfl, by rw [e]⟩) rc
  · cases (show v = Value.ref a from rx)
    rcases ha with ha | ha
    · obtain ⟨us, r1, p1, _⟩ := I.list ha
      cases y with
      | non => cases ry; exact .list_none p1.isList hu
      | bl b => cases ry; exact .list_bool b p1.isList hu
      | int j => obtain ⟨t, rfl⟩ := ry; exact .list_int j t p1.isList hu
      | str j => obtain ⟨t, rfl⟩ := ry; exact .list_str j t p1.isList hu
      | _ => cases fy
    · obtain ⟨us, r1, p1, _⟩ := I.tuple ha
      cases y with
      | non => cases ry; exact .tuple_none (isT p1) hu
      | bl b => cases ry; exact .tuple_bool b (isT p1) hu
      | int j => obtain ⟨t, rfl⟩ := ry; exact .tuple_int j t (isT p1) hu
      | str j => obtain ⟨t, rfl⟩ := ry; exact .tuple_str j t (isT p1) hu
      | _ => cases fy
  · cases (show u = Value.ref c from ry)
    rcases hc with hc | hc
    · obtain ⟨us, r1, p1, _⟩ := I.list hc
      cases x with
      | non => cases rx; exact .none_list p1.isList hu
      | bl b => cases rx; exact .bool_list b p1.isList hu
      | int j => obtain ⟨t, rfl⟩ := rx; exact .int_list j t p1.isList hu
      | str j => obtain ⟨t, rfl⟩ := rx; exact .str_list j t p1.isList hu
      | _ => cases fx
    · obtain ⟨us, r1, p1, _⟩ := I.tuple hc
      cases x with
      | non => cases rx; exact .none_tuple (isT p1) hu
      | bl b => cases rx; exact .bool_tuple b (isT p1) hu
      | int j => obtain ⟨t, rfl⟩ := rx; exact .int_tuple j t (isT p1) hu
      | str j => obtain ⟨t, rfl⟩ := rx; exact .str_tuple j t (isT p1) hu
      | _ => cases fx
/-- a comparison of an object with itself within data is true: so must b be -/
theorem eqT_self (I : Inv X pins σ H s) {n : Nat} : ∀ {x : V} {b : Bool}, EqW X.K H n x x b → b = true := by
  induction n with
  | zero =>
    intro x b h
    rcases h with ⟨f, _, rfl⟩ | ⟨a, _, _, rfl⟩
    · exact eqV_self f
    · rfl
  | succ n ih =>
    intro x b h
    rcases h with ⟨f, _, rfl⟩ | ⟨a, _, _, rfl⟩ | h
    · exact eqV_self f
    · rfl
    · have seq : ∀ {xs ys : List V}, xs = ys → SeqE (EqW X.K H n) xs ys b → b = true := fun {xs ys} e q => by
        subst e
        obtain ⟨e, he, rfl⟩ := q
        rw [decide_eq_true rfl, Bool.and_true]
        refine List.all_eq_true.mpr fun j hj => ?_
        have hj' := List.mem_range.mp hj
        rw [Nat.min_self] at hj'
        exact ih (he j _ _ (List.getElem?_eq_getElem hj') (List.getElem?_eq_getElem hj'))
      rcases h with ⟨a, c, xs, ys, e1, e2, ha, hc, h⟩ | ⟨a, c, xs, ys, e1, e2, ha, hc, h⟩ | ⟨a, c, xs, ys, e1, e2, ha, hc, h⟩ | ⟨a, c, xs, ys, e1, e2, ha, hc, h⟩ | ⟨a, _, rfl, _, fy, _⟩ | ⟨c, _, rfl, _, fx, _⟩
      · rw [e1] at e2; cases e2
        have e := I.list_inj ha hc
        rcases h with ⟨hl, _⟩ | h
        · exact absurd (congrArg List.length e) hl
        · exact seq e h
      · rw [e1] at e2; cases e2
        exact seq (I.tuple_inj ha hc) h
      · rw [e1] at e2; cases e2
        obtain ⟨us, r1, p1, _⟩ := I.list ha
        obtain ⟨ws, r2, p2, _⟩ := I.tuple hc
        exact absurd rfl (SeqAt.ne_of_list_tuple p1.isList (isT p2))
      · rw [e1] at e2; cases e2
        obtain ⟨us, r1, p1, _⟩ := I.tuple ha
        obtain ⟨ws, r2, p2, _⟩ := I.list hc
        exact absurd rfl (SeqAt.ne_of_list_tuple p2.isList (isT p1))
      · cases fy
      · cases fx
theorem eqW_run (I : Inv X pins σ H s) : ∀ (n : Nat) (A : Around), A.units + n < cLine → ∀ (x y : V) (b : Bool) (v u : Value), EqW X.K H n x y b → RelV x v → RelV y u → SeqAt.EqAt A s v u b
  | 0, A, hu, x, y, b, v, u, h, rx, ry => by
    rcases h with ⟨f1, f2, rfl⟩ | ⟨a, rfl, rfl, rfl⟩
    · exact eqAt_V rx ry f1 f2
    · cases (show v = Value.ref a from rx)
      cases (show u = Value.ref a from ry)
      exact .same _
  | n + 1, A, hu, x, y, b, v, u, h, rx, ry => by
    rcases id h with ⟨f1, f2, rfl⟩ | ⟨a, rfl, rfl, rfl⟩ | h2
    · exact eqAt_V rx ry f1 f2
    · cases (show v = Value.ref a from rx)
      cases (show u = Value.ref a from ry)
      exact .same _
    · by_cases hs : ∃ a, x = .ref a ∧ y = .ref a
      · obtain ⟨a, rfl, rfl⟩ := hs
        cases (show v = Value.ref a from rx)
        cases (show u = Value.ref a from ry)
        rw [eqT_self I h]
        exact .same _
      · exact at_of_rc I (by omega) (eqW_run I n A.in1 (by show A.units + 1 + n < cLine; omega)) h2 (fun a q => hs ⟨a, q⟩) rx ry
/-- the two answers at the top: not an object with itself taken for granted -/
def rEqW (K : PySem.W.Frag) (neg : Bool) : R2 := fun x y H Q => ∃ n b, n ≤ 60 ∧ ((flatV x = true ∧ flatV y = true ∧ b = eqV x y) ∨ EqT K H (EqW K H n) x y b) ∧ Q (.bl (if neg = true then !b else b)) H
theorem op_eqW (hu : X.A.units + 64 < cLine) : OpR X (compareOp .Eq) (rEqW X.K false) := by
  intro pins s σ H x y v u Q I rx ry h
  obtain ⟨n, b, hn, h, q⟩ := h
  have rc : SeqAt.RcAt X.A s v u b := by
    rcases h with ⟨f1, f2, rfl⟩ | h
    · exact (rc_flat f1 f2 rx ry).1
    · exact (eqT_rc I (by omega) (eqW_run I n X.A.in1 (by show X.A.units + 1 + n < cLine; omega)) h rx ry).1
  exact rc _ _ _ _ ⟨.bl b, H, I, rfl, q⟩
theorem op_neW (hu : X.A.units + 64 < cLine) : OpR X (compareOp .NotEq) (rEqW X.K true) := by
  intro pins s σ H x y v u Q I rx ry h
  obtain ⟨n, b, hn, h, q⟩ := h
  have rc : SeqAt.RcNeAt X.A s v u (!b) := by
    rcases h with ⟨f1, f2, rfl⟩ | h
    · exact (rc_flat f1 f2 rx ry).2
    · exact (eqT_rc I (by omega) (eqW_run I n X.A.in1 (by show X.A.units + 1 + n < cLine; omega)) h rx ry).2
  exact rc _ _ _ _ ⟨.bl (!b), H, I, rfl, q⟩
end
end Z
namespace Z
open PySem PySem.Spec PyProof.Rows L2
theorem seqE_self {K : PySem.W.Frag} {H : Hp} {n : Nat} (xs : List V) (h : xs.all flatV = true) : SeqE (EqW K H n) xs xs true :=
  ⟨fun _ => true, fun j x y e1 e2 => by
    rw [e1] at e2; cases e2
    have f := List.all_eq_true.mp h x (List.mem_of_getElem? e1)
    have q := EqW.flat (K := K) (H := H) (n := n) f f
    rwa [eqV_self f] at q, by rw [decide_eq_true rfl, Bool.and_true]; exact (List.all_eq_true.mpr fun _ _ => rfl).symm⟩
end Z

set_option Elab.async false
set_option linter.all false
set_option maxRecDepth 100000
set_option maxHeartbeats 4000000
namespace Z
open PySem PySem.Spec PyProof.Rows L2
/-! ### a row read into tokens with columns -/
abbrev Tk := List Nat × Nat
def cat (acc : List Tk) : Except Nat (List Tk) → Except Nat (List Tk)
  | .ok t => .ok (acc ++ t)
  | .error e => .error e
theorem cat_cat (a b : List Tk) (r : Except Nat (List Tk)) : cat a (cat b r) = cat (a ++ b) r := by
  cases r <;> simp [cat]
theorem cat_nil (r : Except Nat (List Tk)) : cat [] r = r := by cases r <;> rfl
def lex : Nat → Nat → List Nat → Except Nat (List Tk)
  | 0, _, _ => .ok []
  | _ + 1, _, [] => .ok []
  | f + 1, a, c :: r => if c = 32 then lex f (a + 1) r else
    match tokLen (c :: r) with
    | none => .error a
    | some n => cat [((c :: r).take n, a)] (lex f (a + n) ((c :: r).drop n))
def lexOf (a : Nat) (l : List Nat) : Except Nat (List Tk) := lex l.length a l
theorem tokLen_le {c : Nat} {r : List Nat} {n : Nat} (h : tokLen (c :: r) = some n) : 1 ≤ n ∧ n ≤ r.length + 1 := by
  rw [tokLen_cons] at h
  split at h
  · cases q : qAt r with
    | none => rw [q] at h; cases h
    | some k =>
      rw [q] at h
      cases h
      have := qAt_lt q
      show 1 ≤ k + 2 ∧ k + 2 ≤ r.length + 1
      omega
  · split at h
    · cases h
      have := wE_le r
      omega
    · split at h
      · rename_i p
        cases h
        have := prs_len p
        rw [List.length_take, List.length_cons] at this
        omega
      · cases h; omega
theorem lex_fuel : ∀ (f : Nat) (a : Nat) (l : List Nat), l.length ≤ f → lex f a l = lexOf a l := by
  intro f
  induction f using Nat.strongRecOn with
  | ind f ih =>
    intro a l h
    cases l with
    | nil => cases f <;> rfl
    | cons c r =>
      cases f with
      | zero => simp at h
      | succ f =>
        have hr : r.length ≤ f := by simpa using h
        show lex (f + 1) a (c :: r) = lex (r.length + 1) a (c :: r)
        unfold lex
        split
        · rw [ih f (by omega) (a + 1) r hr]; rfl
        · cases q : tokLen (c :: r) with
          | none => rfl
          | some n =>
            have hb := tokLen_le q
            have hd : ((c :: r).drop n).length ≤ r.length := by rw [List.length_drop, List.length_cons]; omega
            dsimp only
            rw [ih f (by omega) _ _ (by omega)]
            by_cases e : r.length = f
            · subst e; rw [ih _ (by omega) _ _ hd]
            · rw [ih r.length (by omega) _ _ hd]
theorem lexOf_nil (a : Nat) : lexOf a [] = .ok [] := rfl
theorem lexOf_bl (a : Nat) (r : List Nat) : lexOf a (32 :: r) = lexOf (a + 1) r := by
  show lex (r.length + 1) a (32 :: r) = _
  unfold lex
  rw [if_pos rfl]; rfl
theorem lexOf_none {a c : Nat} {r : List Nat} (h : c ≠ 32) (q : tokLen (c :: r) = none) : lexOf a (c :: r) = .error a := by
  show lex (r.length + 1) a (c :: r) = _
  unfold lex
  rw [if_neg h, q]
theorem lexOf_some {a c n : Nat} {r : List Nat} (h : c ≠ 32) (q : tokLen (c :: r) = some n) : lexOf a (c :: r) = cat [((c :: r).take n, a)] (lexOf (a + n) ((c :: r).drop n)) := by
  show lex (r.length + 1) a (c :: r) = _
  unfold lex
  rw [if_neg h, q]
  dsimp only
  have hb := tokLen_le q
  rw [lex_fuel _ _ _ (by rw [List.length_drop, List.length_cons]; omega)]
/-! ### closed rows -/
theorem qAt_cnt : ∀ {r : List Nat} {k : Nat}, qAt r = some k → r.count 34 = 1 + (r.drop (k + 1)).count 34
  | [], k, h => by cases h
  | c :: r, k, h => by
    unfold qAt at h
    split at h
    · rename_i e
      cases h
      subst e
      simp; omega
    · rename_i e
      cases q : qAt r with
      | none => rw [q] at h; cases h
      | some j =>
        rw [q] at h
        cases h
        have ih := qAt_cnt q
        rw [List.count_cons_of_ne (by exact e), ih]
        rfl
theorem qAt_no : ∀ {r : List Nat}, qAt r = none → r.count 34 = 0
  | [], _ => rfl
  | c :: r, h => by
    unfold qAt at h
    split at h
    · cases h
    · rename_i e
      cases q : qAt r with
      | none => rw [List.count_cons_of_ne (by exact e)]; exact qAt_no q
      | some j => rw [q] at h; cases h
theorem isLF_ne {c : Nat} (h : isLF c = true) : c ≠ 34 := by
  intro e; subst e; revert h; decide +kernel
theorem wE_cnt : ∀ (r : List Nat), (r.drop (wE r)).count 34 = r.count 34
  | [] => rfl
  | c :: r => by
    by_cases h : isLF c = true
    · rw [wE_pos h, List.count_cons_of_ne (isLF_ne h)]
      exact wE_cnt r
    · rw [wE_neg h]; rfl
theorem prs_cnt {l : List Nat} (h : l ∈ prs) : l.count 34 = 0 := by
  unfold prs at h
  simp only [List.mem_cons, List.not_mem_nil, or_false] at h
  rcases h with rfl | rfl | rfl | rfl | rfl | rfl | rfl <;> decide
theorem tok_cnt {c n : Nat} {r : List Nat} (q : tokLen (c :: r) = some n) : ((c :: r).drop n).count 34 % 2 = (c :: r).count 34 % 2 := by
  rw [tokLen_cons] at q
  split at q
  · rename_i e
    cases z : qAt r with
    | none => rw [z] at q; cases q
    | some k =>
      rw [z] at q
      cases q
      subst e
      rw [List.count_cons_self, qAt_cnt z]
      show (r.drop (k + 1)).count 34 % 2 = _
      omega
  · rename_i e
    split at q
    · cases q
      show (r.drop (wE r)).count 34 % 2 = _
      rw [wE_cnt, List.count_cons_of_ne e]
    · split at q
      · rename_i p
        cases q
        have h0 := prs_cnt p
        have h1 : (c :: r).count 34 = ((c :: r).take 2).count 34 + ((c :: r).drop 2).count 34 := by
          rw [← List.count_append, List.take_append_drop]
        omega
      · cases q
        rw [List.count_cons_of_ne e]; rfl
theorem lex_closed : ∀ (m : Nat) (a : Nat) (l : List Nat), l.length ≤ m → l.count 34 % 2 = 0 → ∃ t, lexOf a l = .ok t := by
  intro m
  induction m with
  | zero =>
    intro a l h _
    have e : l = [] := List.eq_nil_of_length_eq_zero (by omega)
    subst e
    exact ⟨[], rfl⟩
  | succ m ih =>
    intro a l h hc
    cases l with
    | nil => exact ⟨[], rfl⟩
    | cons c r =>
      have hr : r.length ≤ m := by simpa using h
      by_cases e : c = 32
      · subst e
        rw [lexOf_bl]
        exact ih _ _ hr (by rwa [List.count_cons_of_ne (by decide)] at hc)
      · cases q : tokLen (c :: r) with
        | none =>
          exfalso
          rw [tokLen_cons] at q
          split at q
          · rename_i e2
            cases z : qAt r with
            | none =>
              have := qAt_no z
              subst e2
              rw [List.count_cons_self] at hc
              omega
            | some k => rw [z] at q; cases q
          · split at q
            · cases q
            · split at q <;> cases q
        | some n =>
          have hb := tokLen_le q
          rw [lexOf_some e q]
          obtain ⟨t, ht⟩ := ih (a + n) ((c :: r).drop n) (by rw [List.length_drop, List.length_cons]; omega) (by rw [tok_cnt q]; exact hc)
          exact ⟨_, by rw [ht]; rfl⟩
/-- a row with as many quotes as close one another is read -/
theorem lex_ok {l : List Nat} (h : l.count 34 % 2 = 0) (a : Nat) : ∃ t, lexOf a l = .ok t := lex_closed _ _ _ (Nat.le_refl _) h
end Z
namespace Z
open PySem PySem.Spec PyProof.Rows L2
theorem cat_ok {acc t : List Tk} {r : Except Nat (List Tk)} (h : cat acc r = .ok t) : ∃ u, r = .ok u ∧ t = acc ++ u := by
  cases r with
  | error e => cases h
  | ok u => exact ⟨u, rfl, (Except.ok.inj h).symm⟩
theorem lex_all (P : Tk → Prop) (h1 : ∀ a c r n, c ≠ 32 → tokLen (c :: r) = some n → P ((c :: r).take n, a)) : ∀ (m : Nat) (a : Nat) (l : List Nat) (t : List Tk), l.length ≤ m → lexOf a l = .ok t → ∀ x ∈ t, P x := by
  intro m
  induction m with
  | zero =>
    intro a l t h e
    have q : l = [] := List.eq_nil_of_length_eq_zero (by omega)
    subst q
    cases e
    simp
  | succ m ih =>
    intro a l t h e
    cases l with
    | nil => cases e; simp
    | cons c r =>
      have hr : r.length ≤ m := by simpa using h
      by_cases z : c = 32
      · subst z
        rw [lexOf_bl] at e
        exact ih _ _ _ hr e
      · cases q : tokLen (c :: r) with
        | none => rw [lexOf_none z q] at e; cases e
        | some n =>
          rw [lexOf_some z q] at e
          obtain ⟨u, e1, e2⟩ := cat_ok e
          subst e2
          have hb := tokLen_le q
          intro x hx
          rcases List.mem_append.mp hx with h2 | h2
          · rw [List.mem_singleton] at h2
            subst h2
            exact h1 a c r n z q
          · exact ih _ _ _ (by rw [List.length_drop, List.length_cons]; omega) e1 x h2
theorem lex_pos {a : Nat} {l : List Nat} {t : List Tk} (h : lexOf a l = .ok t) : ∀ x ∈ t, x.1 ≠ [] :=
  lex_all (fun x => x.1 ≠ []) (fun a c r n _ q => by
    have hb := tokLen_le q
    intro e
    have := congrArg List.length e
    rw [List.length_take, List.length_cons, List.length_nil] at this
    omega) _ _ _ _ (Nat.le_refl _) h
end Z
namespace Z
open PySem PySem.Spec PyProof.Rows L2
theorem lex_bound : ∀ (m : Nat) (a : Nat) (l : List Nat) (t : List Tk), l.length ≤ m → lexOf a l = .ok t → t.length ≤ l.length ∧ ∀ x ∈ t, a ≤ x.2 ∧ x.2 + x.1.length ≤ a + l.length := by
  intro m
  induction m with
  | zero =>
    intro a l t h e
    have q : l = [] := List.eq_nil_of_length_eq_zero (by omega)
    subst q
    cases e
    simp
  | succ m ih =>
    intro a l t h e
    cases l with
    | nil => cases e; simp
    | cons c r =>
      have hr : r.length ≤ m := by simpa using h
      by_cases z : c = 32
      · subst z
        rw [lexOf_bl] at e
        obtain ⟨i1, i2⟩ := ih _ _ _ hr e
        refine ⟨by rw [List.length_cons]; omega, fun x hx => ?_⟩
        have := i2 x hx
        rw [List.length_cons]; omega
      · cases q : tokLen (c :: r) with
        | none => rw [lexOf_none z q] at e; cases e
        | some n =>
          rw [lexOf_some z q] at e
          obtain ⟨u, e1, e2⟩ := cat_ok e
          subst e2
          have hb := tokLen_le q
          obtain ⟨i1, i2⟩ := ih _ _ _ (by rw [List.length_drop, List.length_cons]; omega) e1
          rw [List.length_drop, List.length_cons] at i1
          refine ⟨by rw [List.length_append, List.length_cons]; rw [List.length_cons]; show 1 + u.length ≤ _; omega, fun x hx => ?_⟩
          rcases List.mem_append.mp hx with h2 | h2
          · rw [List.mem_singleton] at h2
            subst h2
            show a ≤ a ∧ a + ((c :: r).take n).length ≤ a + (r.length + 1)
            rw [List.length_take, List.length_cons]; omega
          · have := i2 x h2
            rw [List.length_drop, List.length_cons] at this
            rw [List.length_cons]; omega
theorem lex_len {a : Nat} {l : List Nat} {t : List Tk} (h : lexOf a l = .ok t) : t.length ≤ l.length ∧ ∀ x ∈ t, a ≤ x.2 ∧ x.2 + x.1.length ≤ a + l.length := lex_bound _ _ _ _ (Nat.le_refl _) h
end Z

set_option Elab.async false
set_option linter.all false
set_option maxRecDepth 100000
set_option maxHeartbeats 4000000
namespace Z
open PySem PySem.Spec PyProof.Rows L2
/-! ### pieces -/
structure Sg where
  page : Str
  row : Int
  col : Int
  way : List Str
deriving DecidableEq
structure Pc where
  text : Str
  signs : List Sg
  paint : List Str
deriving DecidableEq
def txts (l : List Str) : List V := l.map V.str
def SgAt (K : PySem.W.Frag) (H : Hp) (v : V) (s : Sg) : Prop := ∃ a w, v = .ref a ∧ SqT K H a [.str s.page, .int s.row, .int s.col, .ref w] ∧ SqT K H w (txts s.way)
def SgsAt (K : PySem.W.Frag) (H : Hp) (a : Addr) (l : List Sg) : Prop := ∃ vs, SqT K H a vs ∧ Paired (SgAt K H) vs l
def PcF (z : Str) (sa pa : Addr) : List (Str × V) := [("text", .str z), ("signs", .ref sa), ("paint", .ref pa)]
def PcAt (K : PySem.W.Frag) (H : Hp) (v : V) (p : Pc) : Prop := ∃ a dx sa pa, v = .ref a ∧ H a = some (.ins (He.ga K "Piece") dx (PcF p.text sa pa)) ∧ SgsAt K H sa p.signs ∧ SqT K H pa (txts p.paint)
def PcsL (K : PySem.W.Frag) (H : Hp) (a : Addr) (l : List Pc) : Prop := ∃ vs, SqL K H a vs ∧ Paired (PcAt K H) vs l
theorem Stay.sqT {K : PySem.W.Frag} {H H' : Hp} (s : Stay H H') {a : Addr} {xs : List V} (h : SqT K H a xs) : SqT K H' a xs := by
  rcases h with h | h
  · rcases h with h | ⟨o, h⟩
    · exact .inl (.inl (s _ _ h rfl))
    · exact .inl (.inr ⟨o, s _ _ h rfl⟩)
  · exact .inr h
theorem SgAt.stay {K : PySem.W.Frag} {H H' : Hp} {v : V} {g : Sg} (h : SgAt K H v g) (s : Stay H H') : SgAt K H' v g := by
  obtain ⟨a, w, e, h1, h2⟩ := h
  exact ⟨a, w, e, s.sqT h1, s.sqT h2⟩
theorem SgsAt.stay {K : PySem.W.Frag} {H H' : Hp} {a : Addr} {l : List Sg} (h : SgsAt K H a l) (s : Stay H H') : SgsAt K H' a l := by
  obtain ⟨vs, h1, h2⟩ := h
  exact ⟨vs, s.sqT h1, L2.Paired.mapP h2 fun _ _ q => q.stay s⟩
theorem PcAt.stay {K : PySem.W.Frag} {H H' : Hp} {v : V} {p : Pc} (h : PcAt K H v p) (s : Stay H H') : PcAt K H' v p := by
  obtain ⟨a, dx, sa, pa, e, h1, h2, h3⟩ := h
  exact ⟨a, dx, sa, pa, e, s _ _ h1 rfl, h2.stay s, s.sqT h3⟩
theorem pcs_stay {K : PySem.W.Frag} {H H' : Hp} {vs : List V} {l : List Pc} (h : Paired (PcAt K H) vs l) (s : Stay H H') : Paired (PcAt K H') vs l := L2.Paired.mapP h fun _ _ q => q.stay s
theorem pSnoc {α β : Type} {F : α → β → Prop} {a : α} {b : β} (h : F a b) : ∀ {l : List α} {m : List β}, Paired F l m → Paired F (l ++ [a]) (m ++ [b])
  | _, _, .nil => .cons h .nil
  | _, _, .cons x r => .cons x (pSnoc h r)
theorem pApp {α β : Type} {F : α → β → Prop} {l2 : List α} {m2 : List β} (h : Paired F l2 m2) : ∀ {l : List α} {m : List β}, Paired F l m → Paired F (l ++ l2) (m ++ m2)
  | _, _, .nil => h
  | _, _, .cons x r => .cons x (pApp h r)
theorem pAt {α β : Type} {F : α → β → Prop} : ∀ {l : List α} {m : List β} {i : Nat} {a : α}, Paired F l m → l[i]? = some a → ∃ b, m[i]? = some b ∧ F a b
  | _, _, i, a, .nil, h => by simp at h
  | _, _, 0, a, .cons x r, h => by
    have e := Option.some.inj h
    subst e
    exact ⟨_, rfl, x⟩
  | _, _, i + 1, a, .cons x r, h => pAt r (i := i) h
theorem pLen {α β : Type} {F : α → β → Prop} {l : List α} {m : List β} (h : Paired F l m) : l.length = m.length := Paired.length h
/-- a token's piece as read -/
def pcOf (page : Str) (number : Int) (t : Tk) : Pc := ⟨⟨t.1.toArray⟩, (List.range t.1.length).map fun k => ⟨page, number, (t.2 + k : Nat), []⟩, []⟩
/-! ### equal or not -/
theorem seqE_nil {E : V → V → Bool → Prop} : SeqE E [] [] true := ⟨fun _ => true, fun j x y h => by simp at h, rfl⟩
theorem seqE_nc {E : V → V → Bool → Prop} {y : V} {ys : List V} : SeqE E [] (y :: ys) false := ⟨fun _ => true, fun j x y h => by simp at h, by simp⟩
theorem seqE_cn {E : V → V → Bool → Prop} {x : V} {xs : List V} : SeqE E (x :: xs) [] false := ⟨fun _ => true, fun j x y _ h => by simp at h, by simp⟩
theorem seqE_cons {E : V → V → Bool → Prop} {x y : V} {xs ys : List V} {b c : Bool} (h : E x y b) (t : SeqE E xs ys c) : SeqE E (x :: xs) (y :: ys) (b && c) := by
  obtain ⟨e, h1, h2⟩ := t
  refine ⟨fun j => match j with | 0 => b | j + 1 => e j, fun j u v hu hv => ?_, ?_⟩
  · cases j with
    | zero =>
      have e1 : x = u := Option.some.inj hu
      have e2 : y = v := Option.some.inj hv
      subst e1 e2
      exact h
    | succ j => exact h1 j u v hu hv
  · subst h2
    have hm : min (x :: xs).length (y :: ys).length = min xs.length ys.length + 1 := by simp only [List.length_cons]; omega
    rw [hm, List.range_succ_eq_map, List.all_cons, List.all_map]
    have hd : decide ((x :: xs).length = (y :: ys).length) = decide (xs.length = ys.length) := by rw [decide_eq_decide]; simp
    rw [hd, Bool.and_assoc]
    rfl
theorem seqE_dec {α : Type} [DecidableEq α] {E : V → V → Bool → Prop} {R R' : V → α → Prop} (hE : ∀ x y a b, R x a → R' y b → E x y (decide (a = b))) : ∀ {xs ys : List V} {l m : List α}, Paired R xs l → Paired R' ys m → SeqE E xs ys (decide (l = m))
  | _, _, _, _, .nil, .nil => seqE_nil
  | _, _, _, _, .nil, .cons y r => seqE_nc
  | _, _, _, _, .cons x r, .nil => seqE_cn
  | _ :: _, _ :: _, a :: l, b :: m, .cons x r, .cons y q => by
    have h := seqE_cons (hE _ _ _ _ x y) (seqE_dec hE r q)
    have e : decide (a :: l = b :: m) = (decide (a = b) && decide (l = m)) := by
      rw [← Bool.decide_and, decide_eq_decide, List.cons.injEq]
    rw [e]; exact h
theorem paired_txt : ∀ (l : List Str), Paired (fun v a => v = V.str a) (txts l) l
  | [] => .nil
  | a :: l => .cons rfl (paired_txt l)
theorem eqV_str (a b : Str) : eqV (.str a) (.str b) = decide (a = b) := by
  show (a == b) = _
  by_cases h : a = b <;> simp [h]
theorem eqV_int (a b : Int) : eqV (.int a) (.int b) = decide (a = b) := by
  show (a == b) = _
  by_cases h : a = b <;> simp [h]
theorem eqW_str {K : PySem.W.Frag} {H : Hp} {n : Nat} {a b : Str} : EqW K H n (.str a) (.str b) (decide (a = b)) := by
  rw [← eqV_str]; exact EqW.flat rfl rfl
theorem eqW_int {K : PySem.W.Frag} {H : Hp} {n : Nat} {a b : Int} : EqW K H n (.int a) (.int b) (decide (a = b)) := by
  rw [← eqV_int]; exact EqW.flat rfl rfl
theorem seqE_txt {K : PySem.W.Frag} {H : Hp} {n : Nat} (a b : List Str) : SeqE (EqW K H n) (txts a) (txts b) (decide (a = b)) :=
  seqE_dec (R := fun v a => v = V.str a) (R' := fun v a => v = V.str a) (fun x y a b h1 h2 => by subst h1 h2; exact eqW_str) (paired_txt a) (paired_txt b)
theorem eqW_tup {K : PySem.W.Frag} {H : Hp} {n : Nat} {a c : Addr} {xs ys : List V} {b : Bool} (h1 : SqT K H a xs) (h2 : SqT K H c ys) (h : SeqE (EqW K H n) xs ys b) : EqW K H (n + 1) (.ref a) (.ref c) b :=
  .inr (.inr (.inr (.inl ⟨a, c, xs, ys, rfl, rfl, h1, h2, h⟩)))
theorem eqW_lst {K : PySem.W.Frag} {H : Hp} {n : Nat} {a c : Addr} {xs ys : List V} {b : Bool} (h1 : SqL K H a xs) (h2 : SqL K H c ys) (h : SeqE (EqW K H n) xs ys b) : EqW K H (n + 1) (.ref a) (.ref c) b :=
  .inr (.inr (.inl ⟨a, c, xs, ys, rfl, rfl, h1, h2, .inr h⟩))
theorem eqW_txts {K : PySem.W.Frag} {H : Hp} {n : Nat} {a c : Addr} {l m : List Str} (h1 : SqT K H a (txts l)) (h2 : SqT K H c (txts m)) : EqW K H (n + 1) (.ref a) (.ref c) (decide (l = m)) := eqW_tup h1 h2 (seqE_txt l m)
theorem eqW_sg {K : PySem.W.Frag} {H : Hp} {n : Nat} {x y : V} {s t : Sg} (h1 : SgAt K H x s) (h2 : SgAt K H y t) : EqW K H (n + 2) x y (decide (s = t)) := by
  obtain ⟨a, w, rfl, a1, a2⟩ := h1
  obtain ⟨b, u, rfl, b1, b2⟩ := h2
  have q := eqW_tup (n := n + 1) a1 b1 (seqE_cons eqW_str (seqE_cons eqW_int (seqE_cons eqW_int (seqE_cons (eqW_txts a2 b2) seqE_nil))))
  have e : decide (s = t) = (decide (s.page = t.page) && (decide (s.row = t.row) && (decide (s.col = t.col) && (decide (s.way = t.way) && true)))) := by
    obtain ⟨s1, s2, s3, s4⟩ := s
    obtain ⟨t1, t2, t3, t4⟩ := t
    rw [Bool.and_true, ← Bool.decide_and, ← Bool.decide_and, ← Bool.decide_and, decide_eq_decide, Sg.mk.injEq]
  rw [e]; exact q
theorem eqW_sgs {K : PySem.W.Frag} {H : Hp} {n : Nat} {a c : Addr} {l m : List Sg} (h1 : SgsAt K H a l) (h2 : SgsAt K H c m) : EqW K H (n + 3) (.ref a) (.ref c) (decide (l = m)) := by
  obtain ⟨xs, x1, x2⟩ := h1
  obtain ⟨ys, y1, y2⟩ := h2
  exact eqW_tup x1 y1 (seqE_dec (E := EqW K H (n + 2)) (R := SgAt K H) (R' := SgAt K H) (fun _ _ _ _ p q => eqW_sg p q) x2 y2)
end Z
namespace Z
open PySem PySem.Spec PyProof.Rows L2
theorem eqW_sgs_self {K : PySem.W.Frag} {H : Hp} {n : Nat} {a c : Addr} {l : List Sg} (h1 : SgsAt K H a l) (h2 : SgsAt K H c l) : EqW K H (n + 3) (.ref a) (.ref c) true := by
  have q := eqW_sgs (n := n) h1 h2
  rwa [decide_eq_true rfl] at q
theorem eqW_txts_self {K : PySem.W.Frag} {H : Hp} {n : Nat} {a c : Addr} {l : List Str} (h1 : SqT K H a (txts l)) (h2 : SqT K H c (txts l)) : EqW K H (n + 1) (.ref a) (.ref c) true := by
  have q := eqW_txts (n := n) h1 h2
  rwa [decide_eq_true rfl] at q
end Z
namespace Z
open PySem PySem.Spec PyProof.Rows L2
/-! ### at the top of a comparison -/
abbrev TopE (K : PySem.W.Frag) (H : Hp) (n : Nat) (x y : V) (b : Bool) : Prop := (flatV x = true ∧ flatV y = true ∧ b = eqV x y) ∨ EqT K H (EqW K H n) x y b
theorem top_tup {K : PySem.W.Frag} {H : Hp} {n : Nat} {a c : Addr} {xs ys : List V} {b : Bool} (h1 : SqT K H a xs) (h2 : SqT K H c ys) (h : SeqE (EqW K H n) xs ys b) : TopE K H n (.ref a) (.ref c) b :=
  .inr (.inr (.inl ⟨a, c, xs, ys, rfl, rfl, h1, h2, h⟩))
theorem top_lst {K : PySem.W.Frag} {H : Hp} {n : Nat} {a c : Addr} {xs ys : List V} {b : Bool} (h1 : SqL K H a xs) (h2 : SqL K H c ys) (h : SeqE (EqW K H n) xs ys b) : TopE K H n (.ref a) (.ref c) b :=
  .inr (.inl ⟨a, c, xs, ys, rfl, rfl, h1, h2, .inr h⟩)
theorem top_txts {K : PySem.W.Frag} {H : Hp} {n : Nat} {a c : Addr} {l m : List Str} (h1 : SqT K H a (txts l)) (h2 : SqT K H c (txts m)) : TopE K H n (.ref a) (.ref c) (decide (l = m)) := top_tup h1 h2 (seqE_txt l m)
theorem top_sgs {K : PySem.W.Frag} {H : Hp} {n : Nat} {a c : Addr} {l m : List Sg} (h1 : SgsAt K H a l) (h2 : SgsAt K H c m) : TopE K H (n + 2) (.ref a) (.ref c) (decide (l = m)) := by
  obtain ⟨xs, x1, x2⟩ := h1
  obtain ⟨ys, y1, y2⟩ := h2
  exact top_tup x1 y1 (seqE_dec (E := EqW K H (n + 2)) (R := SgAt K H) (R' := SgAt K H) (fun _ _ _ _ p q => eqW_sg p q) x2 y2)
theorem top_sgs_self {K : PySem.W.Frag} {H : Hp} {n : Nat} {a c : Addr} {l : List Sg} (h1 : SgsAt K H a l) (h2 : SgsAt K H c l) : TopE K H (n + 2) (.ref a) (.ref c) true := by
  have q := top_sgs (n := n) h1 h2
  rwa [decide_eq_true rfl] at q
end Z

set_option Elab.async false
set_option linter.all false
set_option maxRecDepth 100000
set_option maxHeartbeats 4000000
namespace Z
open PySem PySem.Spec PyProof.Rows L2
/-! ### texts: join, count, index -/
theorem join0S : ∀ ys : List Str, cl (Str.join ("" : Str) ys) = (ys.map cl).flatten
  | [] => by rw [show ([] : List Str).map cl = [] from rfl]; exact (by decide +kernel : cl (Str.join ("" : Str) []) = [])
  | [x] => by
    show cl x = _
    simp
  | x :: y :: r => by
    rw [PyProof.Rows.join_cons_cons, cl_append, cl_append, join0S (y :: r), nil_s]
    simp
theorem join0 (ys : List Str) : cl (Txt.join ("" : Str) ys) = (ys.map cl).flatten := by rw [eq_of_beq (PyProof.Rows.join_plain_closes _ _)]; exact join0S ys
theorem cnt_is (c : Nat) : ∀ l : List Nat, PyProof.Rows.cnt c l = (l.count c : Int)
  | [] => rfl
  | a :: r => by
    rw [PyProof.Rows.cnt_cons, cnt_is c r]
    by_cases h : a = c
    · subst h; rw [if_pos rfl, List.count_cons_self]; omega
    · rw [if_neg h, List.count_cons_of_ne h]; omega
theorem q34 : ("\"" : Str) = ⟨#[34]⟩ := by decide +kernel
theorem count34 (z : Str) : Txt.count z ("\"" : Str) = ((cl z).count 34 : Nat) := by
  rw [q34, PyProof.Rows.count_cnt, cnt_is]
theorem rep_len (n : Int) (l : List Nat) : (rep n l).length = n.toNat * l.length := by
  unfold rep
  rw [List.length_flatten, List.map_replicate, List.sum_replicate_nat]
theorem rep_count (c : Nat) (n : Int) (l : List Nat) : (rep n l).count c = n.toNat * l.count c := by
  unfold rep
  rw [List.count_flatten, List.map_replicate, List.sum_replicate_nat]
theorem getD_clx (z : Str) (v : Nat) : z.cps.getD v 0 = (cl z).getD v 0 := by
  rw [List.getD_eq_getElem?_getD, Array.getElem?_toList, Array.getD_eq_getD_getElem?]
theorem find_q0 (z : Str) : Txt.find3 z ("\"" : Str) 0 = match qAt (cl z) with | none => -1 | some k => ((k : Nat) : Int) := by
  have hcl := cl_len z
  rw [q34]
  have f0 : PySem.fromIndex z.length 0 = 0 := rfl
  rcases PySem.StrLaws.find3_spec z 34 0 with ⟨h1, h2⟩ | ⟨k, h1, h2, h3, h4, h5⟩
  · rw [h1, qAt_none (l := cl z) fun v hv => by
      rw [← getD_clx]
      exact h2 _ (by rw [f0]; omega) (by omega)]
  · rw [h1, qAt_some (l := cl z) (k := k) (by omega) (by rw [← getD_clx]; exact h4) fun v hv => by
      rw [← getD_clx]
      exact h5 _ (by rw [f0]; omega) (by omega)]
theorem index_q (z : Str) : Txt.index0 z ("\"" : Str) = qAt (cl z) := by
  have h := find_q0 z
  unfold Txt.find3 at h
  unfold Txt.index0
  rw [show PySem.fromIndex z.length 0 = 0 from rfl] at h
  cases e : PySem.Builtin.Str.occurrences z ("\"" : Str) 0 z.length 1 with
  | nil =>
    rw [e] at h
    cases q : qAt (cl z) with
    | none => rfl
    | some k =>
      rw [q] at h
      replace h : (-1 : Int) = ((k : Nat) : Int) := h
      omega
  | cons a r =>
    rw [e] at h
    cases q : qAt (cl z) with
    | none =>
      rw [q] at h
      replace h : ((a : Nat) : Int) = -1 := h
      omega
    | some k =>
      rw [q] at h
      replace h : ((a : Nat) : Int) = ((k : Nat) : Int) := h
      have : a = k := by omega
      subst this
      rfl
/-! ### a drawn state: what is written there and nowhere else -/
structure Mut (b : Addr) (M : Hp → Prop) : Prop where
  new : ∀ H D o, M H → b ≠ D → M (L2.upd H D o)
  lst : ∀ H, M H → ∃ xs, H b = some (.lst xs)
theorem Mut.stay {b : Addr} {M : Hp → Prop} (m : Mut b M) {H H' : Hp} (h : M H) (k : Keep [b] H H') : Stay H H' := by
  obtain ⟨xs, e⟩ := m.lst H h
  exact k.stay e
theorem Keep.made {S : List Addr} {H H1 : Hp} {D : Addr} {o : HO} (k : Keep S H H1) (h : H D = none) : Keep S H (L2.upd H1 D o) := fun c u e n => by
  rw [upd_ne (ne_of_none e h)]
  exact k c u e n
/-- a comprehension whose element draws -/
theorem lc_mut {J : It} {n : Nat} {Y : Nat → Hp → V → Hp → Prop} (w : Walk J n (fun _ => True) Y) {b : Addr} {M : Hp → Prop} (mu : Mut b M) {G : V → Hp → Prop} (hG : ∀ v H H', G v H → Stay H H' → G v H') {g : TG} {te : TE} {vs : List Nat} {σ : L2.St} {H1 : Hp} {D : Addr} {Qd : Hp → Prop}
    (hn : n ≤ 16777216) (hM : M H1) (hD : H1 D = none)
    (hs : ∀ i x H H' (R : V → Hp → Prop), i < n → M H → Keep [b] H1 H → Y i H x H' → (∀ v H4, G v H4 → M H4 → Keep [b] H H4 → R v H4) → g x (wipe σ vs) H' fun σ2 H2 => wipe σ2 vs = wipe σ vs ∧ te σ2 H2 R)
    (hd : ∀ us H, us.length = n → (∀ v ∈ us, G v H) → M H → Keep [b] H1 H → H D = some (.lst us) → Qd H) :
    ∃ W : Nat → Nat → Hp → Prop, (∃ m, W 0 m (L2.upd H1 D (.lst []))) ∧ ∀ i m H, W i m H →
      (J.stop i H ∧ Qd H) ∨ (J.go i H ∧ ∃ Nx : Hp → Prop, (∀ H', Nx H' → ∃ m', m' < m ∧ W (i + 1) m' H') ∧ ∀ x H', J.yld i H x H' → g x (wipe σ vs) H' fun σ2 H2 => wipe σ2 vs = wipe σ vs ∧ tYes σ2 H2 fun b H3 =>
        if b = true then te σ2 H3 fun y H4 => ∃ acc, H4 D = some (.lst acc) ∧ acc.length < sizeLine ∧ Nx (L2.upd H4 D (.lst (acc ++ [y]))) else Nx H3) := by
  have nb : b ≠ D := by
    obtain ⟨xs, e⟩ := mu.lst H1 hM
    exact ne_of_none e hD
  refine lc_it w (fun i H => M H ∧ Keep [b] H1 H ∧ ∃ us, H D = some (.lst us) ∧ us.length = i ∧ ∀ v ∈ us, G v H) ⟨mu.new _ _ _ hM nb, Keep.refl.new hD, [], upd_same, rfl, by simp⟩ (fun _ _ _ _ => True.intro) ?_ ?_
  · rintro i x H H' hi ⟨m, k, us, e, hl, hu⟩ y
    refine hs i x H H' _ hi m k y fun v H4 gv m4 k4 => ?_
    have e4 := k4.one e nb.symm
    have st := mu.stay m k4
    have st2 : Stay H4 (L2.upd H4 D (.lst (us ++ [v]))) := Stay.refl.updL e4
    refine ⟨us, e4, by rw [ss]; omega, mu.new _ _ _ m4 nb, (k.trans k4).made hD, us ++ [v], upd_same, by simp [hl], fun u hu' => ?_⟩
    rcases List.mem_append.mp hu' with h | h
    · exact hG u _ _ (hu u h) (st.trans st2)
    · rw [List.mem_singleton] at h
      subst h
      exact hG u _ _ gv st2
  · rintro H ⟨m, k, us, e, hl, hu⟩
    exact hd us H hl hu m k e
/-- texts of at most n signs -/
def TxG (n : Nat) : V → Hp → Prop := fun v _ => ∃ z : Str, v = .str z ∧ z.length ≤ n
theorem TxG.all {n : Nat} {H : Hp} : ∀ {us : List V}, (∀ v ∈ us, TxG n v H) → ∃ ws : List Str, us = ws.map V.str ∧ ∀ w ∈ ws, w.length ≤ n
  | [], _ => ⟨[], rfl, by simp⟩
  | u :: us, h => by
    obtain ⟨z, rfl, hz⟩ := h u (by simp)
    obtain ⟨ws, rfl, hw⟩ := TxG.all (us := us) fun v hv => h v (by simp [hv])
    exact ⟨z :: ws, rfl, fun w hw' => (List.mem_cons.mp hw').elim (fun e => e ▸ hz) (hw w)⟩
theorem sum_le {n : Nat} : ∀ (ws : List Str), (∀ w ∈ ws, w.length ≤ n) → (ws.map (·.length)).sum ≤ n * ws.length
  | [], _ => by simp
  | w :: ws, h => by
    have a := h w (by simp)
    have b := sum_le ws fun v hv => h v (by simp [hv])
    rw [List.map_cons, List.sum_cons, List.length_cons, Nat.mul_add, Nat.mul_one]
    omega
theorem join0_len (ws : List Str) : (Txt.join ("" : Str) ws).length = (ws.map (·.length)).sum := by
  rw [← cl_len, join0, List.length_flatten, List.map_map]
  exact congrArg List.sum (List.map_congr_left fun w _ => cl_len w)
end Z

set_option Elab.async false
set_option linter.all false
set_option maxRecDepth 100000
set_option maxHeartbeats 4000000
namespace Z
open PySem PySem.Spec PyProof.Rows L2
/-! ### the text by places -/
def top (i : Nat) : Stmt := PySem.Challenge.pw_bluepaint_k02_rows_read.main.body.getD i (.Pass ⟨0, 0, 0, 0⟩)
abbrev st_Unread_init : Stmt := inClass (top 1) 0
abbrev st_Piece_init : Stmt := inClass (top 6) 0
abbrev st_Piece_eq : Stmt := inClass (top 6) 1
abbrev st_Piece_len : Stmt := inClass (top 6) 2
abbrev st_Piece_str : Stmt := inClass (top 6) 3
abbrev st_Piece_repr : Stmt := inClass (top 6) 4
abbrev st_Piece_stands : Stmt := inClass (top 6) 5
abbrev st_word_end : Stmt := top 7
abbrev st_token_end : Stmt := top 8
abbrev st_pieces_of : Stmt := top 9
abbrev st__law_cell : Stmt := top 11
abbrev st__law_bag : Stmt := top 12
abbrev st__law_take : Stmt := top 13
abbrev st__law_token : Stmt := top 14
abbrev st__law_row : Stmt := top 15
abbrev st__law_read : Stmt := top 16
abbrev st__law_as_due : Stmt := top 17
abbrev st_law : Stmt := top 18
def dd_Unread_init : He.DefD := ⟨("Unread", some "__init__"), "__init__", "Unread.__init__", defArgs st_Unread_init, defBody st_Unread_init, defScope st_Unread_init, [], []⟩
def dd_Piece_init : He.DefD := ⟨("Piece", some "__init__"), "__init__", "Piece.__init__", defArgs st_Piece_init, defBody st_Piece_init, defScope st_Piece_init, [.adr (He.dflAt ("Piece", some "__init__") 0)], []⟩
def dd_Piece_eq : He.DefD := ⟨("Piece", some "__eq__"), "__eq__", "Piece.__eq__", defArgs st_Piece_eq, defBody st_Piece_eq, defScope st_Piece_eq, [], []⟩
def dd_Piece_len : He.DefD := ⟨("Piece", some "__len__"), "__len__", "Piece.__len__", defArgs st_Piece_len, defBody st_Piece_len, defScope st_Piece_len, [], []⟩
def dd_Piece_str : He.DefD := ⟨("Piece", some "__str__"), "__str__", "Piece.__str__", defArgs st_Piece_str, defBody st_Piece_str, defScope st_Piece_str, [], []⟩
def dd_Piece_repr : He.DefD := ⟨("Piece", some "__repr__"), "__repr__", "Piece.__repr__", defArgs st_Piece_repr, defBody st_Piece_repr, defScope st_Piece_repr, [], []⟩
def dd_Piece_stands : He.DefD := ⟨("Piece", some "stands"), "stands", "Piece.stands", defArgs st_Piece_stands, defBody st_Piece_stands, defScope st_Piece_stands, [], []⟩
def dd_word_end : He.DefD := ⟨("word_end", none), "word_end", "word_end", defArgs st_word_end, defBody st_word_end, defScope st_word_end, [], []⟩
def dd_token_end : He.DefD := ⟨("token_end", none), "token_end", "token_end", defArgs st_token_end, defBody st_token_end, defScope st_token_end, [], []⟩
def dd_pieces_of : He.DefD := ⟨("pieces_of", none), "pieces_of", "pieces_of", defArgs st_pieces_of, defBody st_pieces_of, defScope st_pieces_of, [], [("page", .str ""), ("number", .int 0)]⟩
def dd__law_cell : He.DefD := ⟨("_law_cell", none), "_law_cell", "_law_cell", defArgs st__law_cell, defBody st__law_cell, defScope st__law_cell, [], []⟩
def dd__law_bag : He.DefD := ⟨("_law_bag", none), "_law_bag", "_law_bag", defArgs st__law_bag, defBody st__law_bag, defScope st__law_bag, [], []⟩
def dd__law_take : He.DefD := ⟨("_law_take", none), "_law_take", "_law_take", defArgs st__law_take, defBody st__law_take, defScope st__law_take, [], []⟩
def dd__law_token : He.DefD := ⟨("_law_token", none), "_law_token", "_law_token", defArgs st__law_token, defBody st__law_token, defScope st__law_token, [], []⟩
def dd__law_row : He.DefD := ⟨("_law_row", none), "_law_row", "_law_row", defArgs st__law_row, defBody st__law_row, defScope st__law_row, [], []⟩
def dd__law_read : He.DefD := ⟨("_law_read", none), "_law_read", "_law_read", defArgs st__law_read, defBody st__law_read, defScope st__law_read, [], []⟩
def dd__law_as_due : He.DefD := ⟨("_law_as_due", none), "_law_as_due", "_law_as_due", defArgs st__law_as_due, defBody st__law_as_due, defScope st__law_as_due, [], []⟩
def dd_law : He.DefD := ⟨("law", none), "law", "law", defArgs st_law, defBody st_law, defScope st_law, [], []⟩
def fn : List He.DefD := [dd_Unread_init, dd_Piece_init, dd_Piece_eq, dd_Piece_len, dd_Piece_str, dd_Piece_repr, dd_Piece_stands, dd_word_end, dd_token_end, dd_pieces_of, dd__law_cell, dd__law_bag, dd__law_take, dd__law_token, dd__law_row, dd__law_read, dd__law_as_due, dd_law]
def fa : List He.Fa := [.glo "Unread", .str "LETTERS" "abcdefghijklmnopqrstuvwxyzABCDEFGHIJKLMNOPQRSTUVWXYZ", .str "FIGURES" "0123456789", .glo "PAIRS", .glo "Piece", .cls "Piece", .mkr "Piece", .meth "Piece" "__init__", .meth "Piece" "__eq__", .meth "Piece" "__len__", .meth "Piece" "__str__", .meth "Piece" "__repr__", .meth "Piece" "stands", .noat "Piece" "text", .noat "Piece" "signs", .noat "Piece" "paint", .glo "word_end", .glo "token_end", .glo "pieces_of", .glo "_law_cell", .glo "_law_bag", .glo "_law_take", .glo "_law_token", .glo "_law_row", .glo "_law_read", .glo "_law_as_due", .glo "law", .free "isinstance", .free "len", .free "str", .free "tuple", .free "range", .free "abs", .free "min", .free "list", .free "zip", .free "max", .free "ValueError"]
def exB (K : PySem.W.Frag) : Bool := clsIB K "Piece" && (kcB K "Piece" "Piece" true && (tupA K (He.dflAt ("Piece", some "__init__") 0 K) [] && (He.tupB K "PAIRS" [.str "==", .str "!=", .str "<=", .str ">=", .str "&&", .str "||", .str "->"] && (true))))
structure Top (w : World) (K : PySem.W.Frag) (mg : Str → Option Value) : Prop where
  ex : ∃ h : Heap, K.In h ∧ h.Ns mainGlobals mg ∧ He.SaysX fa fn [] [] exB w h K
section
variable {w : World} {K : PySem.W.Frag} {mg : Str → Option Value}
theorem Top.g_Unread (T : Top w K mg) : mg "Unread" = some (.ref (He.ga K "Unread")) := by
  obtain ⟨h, X, G, c⟩ := T
  have q := c.t.d.fact 0 (f := .glo "Unread") rfl
  exact He.glo_ok X G q
theorem Top.s_LETTERS (T : Top w K mg) : ∃ t, mg "LETTERS" = some (.str "abcdefghijklmnopqrstuvwxyzABCDEFGHIJKLMNOPQRSTUVWXYZ" t) := by
  obtain ⟨h, X, G, c⟩ := T
  have q := c.t.d.fact 1 (f := .str "LETTERS" "abcdefghijklmnopqrstuvwxyzABCDEFGHIJKLMNOPQRSTUVWXYZ") rfl
  exact He.str_ok X G q
theorem Top.s_FIGURES (T : Top w K mg) : ∃ t, mg "FIGURES" = some (.str "0123456789" t) := by
  obtain ⟨h, X, G, c⟩ := T
  have q := c.t.d.fact 2 (f := .str "FIGURES" "0123456789") rfl
  exact He.str_ok X G q
theorem Top.g_PAIRS (T : Top w K mg) : mg "PAIRS" = some (.ref (He.ga K "PAIRS")) := by
  obtain ⟨h, X, G, c⟩ := T
  have q := c.t.d.fact 3 (f := .glo "PAIRS") rfl
  exact He.glo_ok X G q
theorem Top.g_Piece (T : Top w K mg) : mg "Piece" = some (.ref (He.ga K "Piece")) := by
  obtain ⟨h, X, G, c⟩ := T
  have q := c.t.d.fact 4 (f := .glo "Piece") rfl
  exact He.glo_ok X G q
theorem Top.cl_Piece (T : Top w K mg) : Cls K (He.ga K "Piece") := by
  obtain ⟨h, X, G, c⟩ := T
  have q := c.t.d.fact 5 (f := .cls "Piece") rfl
  exact He.cls_ok q
theorem Top.mk_Piece (T : Top w K mg) : Mk K (He.ga K "Piece") (He.ma K (He.ga K "Piece") "__init__") := by
  obtain ⟨h, X, G, c⟩ := T
  have q := c.t.d.fact 6 (f := .mkr "Piece") rfl
  exact He.mkr_ok q
theorem Top.m_Piece___init__ (T : Top w K mg) : Meth K (He.ga K "Piece") "__init__" (He.ma K (He.ga K "Piece") "__init__") := by
  obtain ⟨h, X, G, c⟩ := T
  have q := c.t.d.fact 7 (f := .meth "Piece" "__init__") rfl
  exact He.meth_ok q
theorem Top.m_Piece___eq__ (T : Top w K mg) : Meth K (He.ga K "Piece") "__eq__" (He.ma K (He.ga K "Piece") "__eq__") := by
  obtain ⟨h, X, G, c⟩ := T
  have q := c.t.d.fact 8 (f := .meth "Piece" "__eq__") rfl
  exact He.meth_ok q
theorem Top.m_Piece___len__ (T : Top w K mg) : Meth K (He.ga K "Piece") "__len__" (He.ma K (He.ga K "Piece") "__len__") := by
  obtain ⟨h, X, G, c⟩ := T
  have q := c.t.d.fact 9 (f := .meth "Piece" "__len__") rfl
  exact He.meth_ok q
theorem Top.m_Piece___str__ (T : Top w K mg) : Meth K (He.ga K "Piece") "__str__" (He.ma K (He.ga K "Piece") "__str__") := by
  obtain ⟨h, X, G, c⟩ := T
  have q := c.t.d.fact 10 (f := .meth "Piece" "__str__") rfl
  exact He.meth_ok q
theorem Top.m_Piece___repr__ (T : Top w K mg) : Meth K (He.ga K "Piece") "__repr__" (He.ma K (He.ga K "Piece") "__repr__") := by
  obtain ⟨h, X, G, c⟩ := T
  have q := c.t.d.fact 11 (f := .meth "Piece" "__repr__") rfl
  exact He.meth_ok q
theorem Top.m_Piece_stands (T : Top w K mg) : Meth K (He.ga K "Piece") "stands" (He.ma K (He.ga K "Piece") "stands") := by
  obtain ⟨h, X, G, c⟩ := T
  have q := c.t.d.fact 12 (f := .meth "Piece" "stands") rfl
  exact He.meth_ok q
theorem Top.na_Piece_text (T : Top w K mg) : NoAttr K (He.ga K "Piece") "text" := by
  obtain ⟨h, X, G, c⟩ := T
  have q := c.t.d.fact 13 (f := .noat "Piece" "text") rfl
  exact He.noat_ok q
theorem Top.na_Piece_signs (T : Top w K mg) : NoAttr K (He.ga K "Piece") "signs" := by
  obtain ⟨h, X, G, c⟩ := T
  have q := c.t.d.fact 14 (f := .noat "Piece" "signs") rfl
  exact He.noat_ok q
theorem Top.na_Piece_paint (T : Top w K mg) : NoAttr K (He.ga K "Piece") "paint" := by
  obtain ⟨h, X, G, c⟩ := T
  have q := c.t.d.fact 15 (f := .noat "Piece" "paint") rfl
  exact He.noat_ok q
theorem Top.g_word_end (T : Top w K mg) : mg "word_end" = some (.ref (He.ga K "word_end")) := by
  obtain ⟨h, X, G, c⟩ := T
  have q := c.t.d.fact 16 (f := .glo "word_end") rfl
  exact He.glo_ok X G q
theorem Top.g_token_end (T : Top w K mg) : mg "token_end" = some (.ref (He.ga K "token_end")) := by
  obtain ⟨h, X, G, c⟩ := T
  have q := c.t.d.fact 17 (f := .glo "token_end") rfl
  exact He.glo_ok X G q
theorem Top.g_pieces_of (T : Top w K mg) : mg "pieces_of" = some (.ref (He.ga K "pieces_of")) := by
  obtain ⟨h, X, G, c⟩ := T
  have q := c.t.d.fact 18 (f := .glo "pieces_of") rfl
  exact He.glo_ok X G q
theorem Top.g__law_cell (T : Top w K mg) : mg "_law_cell" = some (.ref (He.ga K "_law_cell")) := by
  obtain ⟨h, X, G, c⟩ := T
  have q := c.t.d.fact 19 (f := .glo "_law_cell") rfl
  exact He.glo_ok X G q
theorem Top.g__law_bag (T : Top w K mg) : mg "_law_bag" = some (.ref (He.ga K "_law_bag")) := by
  obtain ⟨h, X, G, c⟩ := T
  have q := c.t.d.fact 20 (f := .glo "_law_bag") rfl
  exact He.glo_ok X G q
theorem Top.g__law_take (T : Top w K mg) : mg "_law_take" = some (.ref (He.ga K "_law_take")) := by
  obtain ⟨h, X, G, c⟩ := T
  have q := c.t.d.fact 21 (f := .glo "_law_take") rfl
  exact He.glo_ok X G q
theorem Top.g__law_token (T : Top w K mg) : mg "_law_token" = some (.ref (He.ga K "_law_token")) := by
  obtain ⟨h, X, G, c⟩ := T
  have q := c.t.d.fact 22 (f := .glo "_law_token") rfl
  exact He.glo_ok X G q
theorem Top.g__law_row (T : Top w K mg) : mg "_law_row" = some (.ref (He.ga K "_law_row")) := by
  obtain ⟨h, X, G, c⟩ := T
  have q := c.t.d.fact 23 (f := .glo "_law_row") rfl
  exact He.glo_ok X G q
theorem Top.g__law_read (T : Top w K mg) : mg "_law_read" = some (.ref (He.ga K "_law_read")) := by
  obtain ⟨h, X, G, c⟩ := T
  have q := c.t.d.fact 24 (f := .glo "_law_read") rfl
  exact He.glo_ok X G q
theorem Top.g__law_as_due (T : Top w K mg) : mg "_law_as_due" = some (.ref (He.ga K "_law_as_due")) := by
  obtain ⟨h, X, G, c⟩ := T
  have q := c.t.d.fact 25 (f := .glo "_law_as_due") rfl
  exact He.glo_ok X G q
theorem Top.g_law (T : Top w K mg) : mg "law" = some (.ref (He.ga K "law")) := by
  obtain ⟨h, X, G, c⟩ := T
  have q := c.t.d.fact 26 (f := .glo "law") rfl
  exact He.glo_ok X G q
theorem Top.n_isinstance (T : Top w K mg) : mg "isinstance" = none := by
  obtain ⟨h, X, G, c⟩ := T
  have q := c.t.d.fact 27 (f := .free "isinstance") rfl
  exact He.free_ok X G q
theorem Top.n_len (T : Top w K mg) : mg "len" = none := by
  obtain ⟨h, X, G, c⟩ := T
  have q := c.t.d.fact 28 (f := .free "len") rfl
  exact He.free_ok X G q
theorem Top.n_str (T : Top w K mg) : mg "str" = none := by
  obtain ⟨h, X, G, c⟩ := T
  have q := c.t.d.fact 29 (f := .free "str") rfl
  exact He.free_ok X G q
theorem Top.n_tuple (T : Top w K mg) : mg "tuple" = none := by
  obtain ⟨h, X, G, c⟩ := T
  have q := c.t.d.fact 30 (f := .free "tuple") rfl
  exact He.free_ok X G q
theorem Top.n_range (T : Top w K mg) : mg "range" = none := by
  obtain ⟨h, X, G, c⟩ := T
  have q := c.t.d.fact 31 (f := .free "range") rfl
  exact He.free_ok X G q
theorem Top.n_abs (T : Top w K mg) : mg "abs" = none := by
  obtain ⟨h, X, G, c⟩ := T
  have q := c.t.d.fact 32 (f := .free "abs") rfl
  exact He.free_ok X G q
theorem Top.n_min (T : Top w K mg) : mg "min" = none := by
  obtain ⟨h, X, G, c⟩ := T
  have q := c.t.d.fact 33 (f := .free "min") rfl
  exact He.free_ok X G q
theorem Top.n_list (T : Top w K mg) : mg "list" = none := by
  obtain ⟨h, X, G, c⟩ := T
  have q := c.t.d.fact 34 (f := .free "list") rfl
  exact He.free_ok X G q
theorem Top.n_zip (T : Top w K mg) : mg "zip" = none := by
  obtain ⟨h, X, G, c⟩ := T
  have q := c.t.d.fact 35 (f := .free "zip") rfl
  exact He.free_ok X G q
theorem Top.n_max (T : Top w K mg) : mg "max" = none := by
  obtain ⟨h, X, G, c⟩ := T
  have q := c.t.d.fact 36 (f := .free "max") rfl
  exact He.free_ok X G q
theorem Top.n_ValueError (T : Top w K mg) : mg "ValueError" = none := by
  obtain ⟨h, X, G, c⟩ := T
  have q := c.t.d.fact 37 (f := .free "ValueError") rfl
  exact He.free_ok X G q
theorem Top.ci_Piece (T : Top w K mg) : ClsI K (He.ga K "Piece") := by
  obtain ⟨h, X, G, c⟩ := T
  have q := c.more
  unfold exB at q
  replace q := (He.ba q).1
  exact clsIB_ok q
theorem Top.kc_Piece_Piece (T : Top w K mg) : PySem.W.kitOne K (.ref (He.ga K "Piece")) (.ref (He.ga K "Piece")) = some true := by
  obtain ⟨h, X, G, c⟩ := T
  have q := c.more
  unfold exB at q
  replace q := (He.ba q).2
  replace q := (He.ba q).1
  exact of_decide_eq_true q
theorem Top.dfl_Piece_init_0 (T : Top w K mg) : ∀ H : Hp, SqT K H (He.dflAt ("Piece", some "__init__") 0 K) [] := by
  obtain ⟨h, X, G, c⟩ := T
  have q := c.more
  unfold exB at q
  replace q := (He.ba q).2
  replace q := (He.ba q).2
  replace q := (He.ba q).1
  exact fun H => tupA_ok q H
theorem Top.tup_PAIRS (T : Top w K mg) : ∀ H : Hp, SqT K H (He.ga K "PAIRS") [V.str "==", V.str "!=", V.str "<=", V.str ">=", V.str "&&", V.str "||", V.str "->"] := by
  obtain ⟨h, X, G, c⟩ := T
  have q := c.more
  unfold exB at q
  replace q := (He.ba q).2
  replace q := (He.ba q).2
  replace q := (He.ba q).2
  replace q := (He.ba q).1
  exact fun H => He.tupB_ok q H
theorem Top.f_Unread_init (T : Top w K mg) : ∃ fd : FuncData, FunD K "__init__" "Unread.__init__" (defArgs st_Unread_init) (defBody st_Unread_init) (defScope st_Unread_init) (dd_Unread_init.dvs K) (dd_Unread_init.kws K) (He.ma K (He.ga K "Unread") "__init__") fd := by
  obtain ⟨h, X, G, c⟩ := T
  exact c.t.d.def_ 0 (d := dd_Unread_init) rfl
theorem Top.f_Piece_init (T : Top w K mg) : ∃ fd : FuncData, FunD K "__init__" "Piece.__init__" (defArgs st_Piece_init) (defBody st_Piece_init) (defScope st_Piece_init) (dd_Piece_init.dvs K) (dd_Piece_init.kws K) (He.ma K (He.ga K "Piece") "__init__") fd := by
  obtain ⟨h, X, G, c⟩ := T
  exact c.t.d.def_ 1 (d := dd_Piece_init) rfl
theorem Top.f_Piece_eq (T : Top w K mg) : ∃ fd : FuncData, FunD K "__eq__" "Piece.__eq__" (defArgs st_Piece_eq) (defBody st_Piece_eq) (defScope st_Piece_eq) (dd_Piece_eq.dvs K) (dd_Piece_eq.kws K) (He.ma K (He.ga K "Piece") "__eq__") fd := by
  obtain ⟨h, X, G, c⟩ := T
  exact c.t.d.def_ 2 (d := dd_Piece_eq) rfl
theorem Top.f_Piece_len (T : Top w K mg) : ∃ fd : FuncData, FunD K "__len__" "Piece.__len__" (defArgs st_Piece_len) (defBody st_Piece_len) (defScope st_Piece_len) (dd_Piece_len.dvs K) (dd_Piece_len.kws K) (He.ma K (He.ga K "Piece") "__len__") fd := by
  obtain ⟨h, X, G, c⟩ := T
  exact c.t.d.def_ 3 (d := dd_Piece_len) rfl
theorem Top.f_Piece_str (T : Top w K mg) : ∃ fd : FuncData, FunD K "__str__" "Piece.__str__" (defArgs st_Piece_str) (defBody st_Piece_str) (defScope st_Piece_str) (dd_Piece_str.dvs K) (dd_Piece_str.kws K) (He.ma K (He.ga K "Piece") "__str__") fd := by
  obtain ⟨h, X, G, c⟩ := T
  exact c.t.d.def_ 4 (d := dd_Piece_str) rfl
theorem Top.f_Piece_repr (T : Top w K mg) : ∃ fd : FuncData, FunD K "__repr__" "Piece.__repr__" (defArgs st_Piece_repr) (defBody st_Piece_repr) (defScope st_Piece_repr) (dd_Piece_repr.dvs K) (dd_Piece_repr.kws K) (He.ma K (He.ga K "Piece") "__repr__") fd := by
  obtain ⟨h, X, G, c⟩ := T
  exact c.t.d.def_ 5 (d := dd_Piece_repr) rfl
theorem Top.f_Piece_stands (T : Top w K mg) : ∃ fd : FuncData, FunD K "stands" "Piece.stands" (defArgs st_Piece_stands) (defBody st_Piece_stands) (defScope st_Piece_stands) (dd_Piece_stands.dvs K) (dd_Piece_stands.kws K) (He.ma K (He.ga K "Piece") "stands") fd := by
  obtain ⟨h, X, G, c⟩ := T
  exact c.t.d.def_ 6 (d := dd_Piece_stands) rfl
theorem Top.f_word_end (T : Top w K mg) : ∃ fd : FuncData, FunD K "word_end" "word_end" (defArgs st_word_end) (defBody st_word_end) (defScope st_word_end) (dd_word_end.dvs K) (dd_word_end.kws K) (He.ga K "word_end") fd := by
  obtain ⟨h, X, G, c⟩ := T
  exact c.t.d.def_ 7 (d := dd_word_end) rfl
theorem Top.f_token_end (T : Top w K mg) : ∃ fd : FuncData, FunD K "token_end" "token_end" (defArgs st_token_end) (defBody st_token_end) (defScope st_token_end) (dd_token_end.dvs K) (dd_token_end.kws K) (He.ga K "token_end") fd := by
  obtain ⟨h, X, G, c⟩ := T
  exact c.t.d.def_ 8 (d := dd_token_end) rfl
theorem Top.f_pieces_of (T : Top w K mg) : ∃ fd : FuncData, FunD K "pieces_of" "pieces_of" (defArgs st_pieces_of) (defBody st_pieces_of) (defScope st_pieces_of) (dd_pieces_of.dvs K) (dd_pieces_of.kws K) (He.ga K "pieces_of") fd := by
  obtain ⟨h, X, G, c⟩ := T
  exact c.t.d.def_ 9 (d := dd_pieces_of) rfl
theorem Top.f__law_cell (T : Top w K mg) : ∃ fd : FuncData, FunD K "_law_cell" "_law_cell" (defArgs st__law_cell) (defBody st__law_cell) (defScope st__law_cell) (dd__law_cell.dvs K) (dd__law_cell.kws K) (He.ga K "_law_cell") fd := by
  obtain ⟨h, X, G, c⟩ := T
  exact c.t.d.def_ 10 (d := dd__law_cell) rfl
theorem Top.f__law_bag (T : Top w K mg) : ∃ fd : FuncData, FunD K "_law_bag" "_law_bag" (defArgs st__law_bag) (defBody st__law_bag) (defScope st__law_bag) (dd__law_bag.dvs K) (dd__law_bag.kws K) (He.ga K "_law_bag") fd := by
  obtain ⟨h, X, G, c⟩ := T
  exact c.t.d.def_ 11 (d := dd__law_bag) rfl
theorem Top.f__law_take (T : Top w K mg) : ∃ fd : FuncData, FunD K "_law_take" "_law_take" (defArgs st__law_take) (defBody st__law_take) (defScope st__law_take) (dd__law_take.dvs K) (dd__law_take.kws K) (He.ga K "_law_take") fd := by
  obtain ⟨h, X, G, c⟩ := T
  exact c.t.d.def_ 12 (d := dd__law_take) rfl
theorem Top.f__law_token (T : Top w K mg) : ∃ fd : FuncData, FunD K "_law_token" "_law_token" (defArgs st__law_token) (defBody st__law_token) (defScope st__law_token) (dd__law_token.dvs K) (dd__law_token.kws K) (He.ga K "_law_token") fd := by
  obtain ⟨h, X, G, c⟩ := T
  exact c.t.d.def_ 13 (d := dd__law_token) rfl
theorem Top.f__law_row (T : Top w K mg) : ∃ fd : FuncData, FunD K "_law_row" "_law_row" (defArgs st__law_row) (defBody st__law_row) (defScope st__law_row) (dd__law_row.dvs K) (dd__law_row.kws K) (He.ga K "_law_row") fd := by
  obtain ⟨h, X, G, c⟩ := T
  exact c.t.d.def_ 14 (d := dd__law_row) rfl
theorem Top.f__law_read (T : Top w K mg) : ∃ fd : FuncData, FunD K "_law_read" "_law_read" (defArgs st__law_read) (defBody st__law_read) (defScope st__law_read) (dd__law_read.dvs K) (dd__law_read.kws K) (He.ga K "_law_read") fd := by
  obtain ⟨h, X, G, c⟩ := T
  exact c.t.d.def_ 15 (d := dd__law_read) rfl
theorem Top.f__law_as_due (T : Top w K mg) : ∃ fd : FuncData, FunD K "_law_as_due" "_law_as_due" (defArgs st__law_as_due) (defBody st__law_as_due) (defScope st__law_as_due) (dd__law_as_due.dvs K) (dd__law_as_due.kws K) (He.ga K "_law_as_due") fd := by
  obtain ⟨h, X, G, c⟩ := T
  exact c.t.d.def_ 16 (d := dd__law_as_due) rfl
theorem Top.f_law (T : Top w K mg) : ∃ fd : FuncData, FunD K "law" "law" (defArgs st_law) (defBody st_law) (defScope st_law) (dd_law.dvs K) (dd_law.kws K) (He.ga K "law") fd := by
  obtain ⟨h, X, G, c⟩ := T
  exact c.t.d.def_ 17 (d := dd_law) rfl
end
/-! ### names by slots -/
theorem sc_Unread_init : FnScope ["self", "place"] ["self", "place"] (defScope st_Unread_init) := ⟨rfl, rfl, rfl, by decide +kernel, rfl, by decide +kernel, by decide +kernel⟩
theorem sc_Piece_init : FnScope ["self", "text", "signs", "paint"] ["self", "text", "signs", "paint"] (defScope st_Piece_init) := ⟨rfl, rfl, rfl, by decide +kernel, rfl, by decide +kernel, by decide +kernel⟩
theorem sc_Piece_eq : FnScope ["self", "other"] ["self", "other"] (defScope st_Piece_eq) := ⟨rfl, rfl, rfl, by decide +kernel, rfl, by decide +kernel, by decide +kernel⟩
theorem sc_Piece_len : FnScope ["self"] ["self"] (defScope st_Piece_len) := ⟨rfl, rfl, rfl, by decide +kernel, rfl, by decide +kernel, by decide +kernel⟩
theorem sc_Piece_str : FnScope ["self"] ["self"] (defScope st_Piece_str) := ⟨rfl, rfl, rfl, by decide +kernel, rfl, by decide +kernel, by decide +kernel⟩
theorem sc_Piece_repr : FnScope ["self"] ["self"] (defScope st_Piece_repr) := ⟨rfl, rfl, rfl, by decide +kernel, rfl, by decide +kernel, by decide +kernel⟩
theorem sc_Piece_stands : FnScope ["self"] ["self"] (defScope st_Piece_stands) := ⟨rfl, rfl, rfl, by decide +kernel, rfl, by decide +kernel, by decide +kernel⟩
theorem sc_word_end : FnScope ["row", "at", "end"] ["row", "at"] (defScope st_word_end) := ⟨rfl, rfl, rfl, by decide +kernel, rfl, by decide +kernel, by decide +kernel⟩
theorem sc_token_end : FnScope ["row", "at", "sign", "closing"] ["row", "at"] (defScope st_token_end) := ⟨rfl, rfl, rfl, by decide +kernel, rfl, by decide +kernel, by decide +kernel⟩
theorem sc_pieces_of : FnScope ["row", "page", "number", "found", "at", "end", "column"] ["row", "page", "number"] (defScope st_pieces_of) := ⟨rfl, rfl, rfl, by decide +kernel, rfl, by decide +kernel, by decide +kernel⟩
theorem sc__law_cell : FnScope ["_law_script", "_law_k"] ["_law_script", "_law_k"] (defScope st__law_cell) := ⟨rfl, rfl, rfl, by decide +kernel, rfl, by decide +kernel, by decide +kernel⟩
theorem sc__law_bag : FnScope ["_law_script", "_law_at", "_law_cell_here", "_law_mix", "_law_k"] ["_law_script", "_law_at"] (defScope st__law_bag) := ⟨rfl, rfl, rfl, by decide +kernel, rfl, by decide +kernel, by decide +kernel⟩
theorem sc__law_take : FnScope ["_law_bag_here", "_law_many", "_law_digit"] ["_law_bag_here", "_law_many"] (defScope st__law_take) := ⟨rfl, rfl, rfl, by decide +kernel, rfl, by decide +kernel, by decide +kernel⟩
theorem sc__law_token : FnScope ["_law_bag_here", "_law_signs", "_law_letters", "_law_way", "_law_k"] ["_law_bag_here"] (defScope st__law_token) := ⟨rfl, rfl, rfl, by decide +kernel, rfl, by decide +kernel, by decide +kernel⟩
theorem sc__law_row : FnScope ["_law_bag_here", "_law_line", "_law_often", "_law_k"] ["_law_bag_here"] (defScope st__law_row) := ⟨rfl, rfl, rfl, by decide +kernel, rfl, by decide +kernel, by decide +kernel⟩
theorem sc__law_read : FnScope ["_law_line", "_law_letters", "_law_found", "_law_at", "_law_sign", "_law_many"] ["_law_line"] (defScope st__law_read) := ⟨rfl, rfl, rfl, by decide +kernel, rfl, by decide +kernel, by decide +kernel⟩
theorem sc__law_as_due : FnScope ["_law_found", "_law_due", "_law_leaf", "_law_height", "_law_piece", "_law_text", "_law_at", "_law_signs", "_law_k"] ["_law_found", "_law_due", "_law_leaf", "_law_height"] (defScope st__law_as_due) := ⟨rfl, rfl, rfl, by decide +kernel, rfl, by decide +kernel, by decide +kernel⟩
theorem sc_law : FnScope ["_law_script", "_law_k", "_law_bag_here", "_law_leaf", "_law_height", "_law_line", "_law_due", "_law_found"] ["_law_script"] (defScope st_law) := ⟨rfl, rfl, rfl, by decide +kernel, rfl, by decide +kernel, by decide +kernel⟩
end Z

namespace Z
open PySem PySem.Spec PyProof.Rows L2
/-! ### tokens: word_end, token_end -/
def sp_word_end : Sp := fun vs H Q _ => ∃ (z : Str) (i : Int), vs = [.str z, .int i] ∧ z.length ≤ sizeLine ∧ 0 ≤ i ∧ i ≤ z.length ∧ Q (.int (i + (wE ((cl z).drop i.toNat) : Nat))) H
theorem wE_drop {l : List Nat} {e : Nat} {c : Nat} (h : l[e]? = some c) : wE (l.drop e) = if isLF c = true then wE (l.drop (e + 1)) + 1 else 0 := by
  obtain ⟨h1, h2⟩ := List.getElem?_eq_some_iff.mp h
  rw [List.drop_eq_getElem_cons h1, h2]
  by_cases q : isLF c = true
  · rw [if_pos q, wE_pos q]
  · rw [if_neg q, wE_neg q]
theorem wE_end {l : List Nat} {e : Nat} (h : l.length ≤ e) : wE (l.drop e) = 0 := by
  rw [List.drop_eq_nil_of_le h]; rfl
theorem ok_word_end {P : Program} {w : World} {K : PySem.W.Frag} {mg : Str → Option Value} (T : Top w K mg) : ∃ fd : FuncData, FunD K "word_end" "word_end" (defArgs st_word_end) (defBody st_word_end) (defScope st_word_end) (dd_word_end.dvs K) (dd_word_end.kws K) (He.ga K "word_end") fd ∧ ∀ base : Heap, FnOk P w K mg base CX0 1 (He.ga K "word_end") fd ["row", "at"] sp_word_end := by
  obtain ⟨fd, F⟩ := T.f_word_end
  refine ⟨fd, F, fun base => F.ok sc_word_end (fun vs H Q E h => by obtain ⟨_, _, rfl, _⟩ := h; rfl) (fun cdv A outer s H vs Q E hr h => ⟨_, PSs.nox
 ((pss_cons (ps_set (i := 2) sc_word_end.nd rfl (Or.inl rfl) (pv 1))
 (pss_cons (ps_while PassesOwn.never (PW.pt (pw_and (pt_cmpR op_lt (pv 2) (pe_callB call_len_str (by rfl) T.n_len (by decide +kernel) (pa_cons (pv 0) pa_nil)) (nomark _)) (pw_and1 (PW.pt (pw_or (pt_cmpR op_in_sign (pe_ix ix_str (pv 0) (pv 2) (fun _ _ => rfl)) (pe_gs T.s_LETTERS) (by rfl)) (pw_or1 (pt_cmpR op_in_sign (pe_ix ix_str (pv 0) (pv 2) (fun _ _ => rfl)) (pe_gs T.s_FIGURES) (by rfl))))))))
 (pss_one (ps_aug (i := 2) sc_word_end.nd rfl (Or.inl rfl) pe_int iop_add)))
 (pss_one (ps_ret (pv 2)))))), ?_⟩)⟩
  obtain ⟨z, i, rfl, hz, h0, h1, kQ⟩ := h
  have hcl := cl_len z
  refine ⟨_, rfl, fun m σ H' => H' = H ∧ ∃ e : Nat, σ = [some (.str z), some (.int i), some (.int e)] ∧ i ≤ e ∧ e ≤ z.length ∧ m = z.length - e ∧ (i + (wE ((cl z).drop i.toNat) : Nat) : Int) = e + (wE ((cl z).drop e) : Nat), ⟨_, rfl, i.toNat, (by show [_, _, some (V.int i)] = _; rw [Int.toNat_of_nonneg h0]), by omega, by omega, rfl, by omega⟩, ?_⟩
  rintro m σ H' ⟨rfl, e, rfl, e0, e1, rfl, ee⟩
  have fin : wE ((cl z).drop e) = 0 → (Q (.int e) H' : Prop) := fun q => by
    have e2 : (i + (wE ((cl z).drop i.toNat) : Nat) : Int) = e := by rw [ee, q]; omega
    rw [← e2]; exact kQ
  refine ⟨_, rfl, _, rfl, z, rfl, hz, _, _, rfl, rfl, _, rfl, ?_⟩
  refine iteD (fun c => ?_) (fun c => ?_)
  · have c' : e < (cl z).length := by omega
    have hx : (cl z)[e]? = some ((cl z)[e]) := List.getElem?_eq_getElem c'
    have hd := wE_drop hx
    have go : isLF (cl z)[e] = true → (∃ m', m' < z.length - e ∧ H' = H' ∧ ∃ e2 : Nat, [some (V.str z), some (.int i), some (.int ((e : Int) + 1))] = [some (V.str z), some (.int i), some (.int e2)] ∧ i ≤ e2 ∧ e2 ≤ z.length ∧ m' = z.length - e2 ∧ (i + (wE ((cl z).drop i.toNat) : Nat) : Int) = e2 + (wE ((cl z).drop e2) : Nat)) := fun q => by
      rw [if_pos q] at hd
      exact ⟨_, by omega, rfl, e + 1, rfl, by omega, by omega, rfl, by omega⟩
    refine ⟨_, rfl, _, rfl, z, _, _, rfl, rfl, hz, atI_nat hx, _, _, rfl, rfl, _, rfl, ?_⟩
    refine iteB (fun a => ?_) (fun a => ?_)
    · exact ⟨_, fun _ _ h => h, _, rfl, _, _, rfl, rfl, go (by unfold isLF; rw [show isL _ = true from a]; rfl)⟩
    · refine ⟨_, rfl, _, rfl, z, _, _, rfl, rfl, hz, atI_nat hx, _, _, rfl, rfl, _, rfl, ?_⟩
      refine iteB (fun b => ?_) (fun b => ?_)
      · exact ⟨_, fun _ _ h => h, _, rfl, _, _, rfl, rfl, go (by unfold isLF; rw [show isF _ = true from b, Bool.or_true])⟩
      · have nq : isLF (cl z)[e] = false := by unfold isLF; rw [show isF _ = false from b, show isL _ = false from a]; rfl
        rw [nq, if_neg (by decide)] at hd
        exact ⟨_, rfl, fin hd⟩
  · exact ⟨_, rfl, fin (wE_end (by omega))⟩
theorem cal_word_end {P : Program} {w : World} {K : PySem.W.Frag} {mg : Str → Option Value} {base : Heap} (T : Top w K mg) : Callee P w K mg base CX0 1 "word_end" sp_word_end [] := by
  obtain ⟨fd, F, S⟩ := ok_word_end (P := P) T
  exact ⟨fd, _, [], S base, T.g_word_end, F.kp, F.bindsN (fun _ _ _ _ _ _ us hl => match us, hl with | [_, _], _ => rfl), .nil⟩

def ofTok (i : Int) : Option Nat → V
  | none => .non
  | some n => .int (i + (n : Nat))
def sp_token_end : Sp := fun vs H Q _ => ∃ (z : Str) (i : Nat), vs = [.str z, .int i] ∧ z.length ≤ sizeLine ∧ i < z.length ∧ Q (ofTok i (tokLen ((cl z).drop i))) H
theorem getD_drop (l : List Nat) (i v : Nat) : (l.drop i).getD v 0 = l.getD (i + v) 0 := by
  rw [List.getD_eq_getElem?_getD, List.getD_eq_getElem?_getD, List.getElem?_drop]
theorem getD_cl (z : Str) (v : Nat) : z.cps.getD v 0 = (cl z).getD v 0 := by
  rw [List.getD_eq_getElem?_getD, Array.getElem?_toList, Array.getD_eq_getD_getElem?]
theorem from_nat {n k : Nat} : PySem.fromIndex n (k : Int) = k := by
  unfold PySem.fromIndex
  rw [if_neg (by omega)]; omega
theorem find_q (z : Str) (i : Nat) (hi : i < z.length) : Txt.find3 z ("\"" : Str) ((i : Int) + 1) = match qAt ((cl z).drop (i + 1)) with | none => -1 | some k => (i : Int) + 1 + (k : Nat) := by
  have hcl := cl_len z
  have e0 : (((i + 1 : Nat)) : Int) = (i : Int) + 1 := rfl
  have es : ("\"" : Str) = ⟨#[34]⟩ := by decide +kernel
  rw [es, ← e0]
  rcases PySem.StrLaws.find3_spec z 34 ((i + 1 : Nat) : Int) with ⟨h1, h2⟩ | ⟨k, h1, h2, h3, h4, h5⟩
  · rw [h1, qAt_none (l := (cl z).drop (i + 1)) fun v hv => by
      rw [List.length_drop] at hv
      rw [getD_drop, ← getD_cl]
      exact h2 _ (by rw [from_nat]; omega) (by omega)]
  · rw [from_nat] at h2
    rw [h1, qAt_some (l := (cl z).drop (i + 1)) (k := k - (i + 1)) (by rw [List.length_drop]; omega) (by rw [getD_drop, ← getD_cl, show i + 1 + (k - (i + 1)) = k by omega]; exact h4) fun v hv => by
      rw [getD_drop, ← getD_cl]
      exact h5 _ (by rw [from_nat]; omega) (by omega)]
    show (k : Int) = (i : Int) + 1 + ((k - (i + 1) : Nat) : Int)
    omega
theorem cut2 (z : Str) (i : Nat) : cl (cutS z (some (i : Int)) (some ((i : Int) + 2))) = ((cl z).drop i).take 2 := by
  have e : ((i : Int) + 2) = ((i + 2 : Nat) : Int) := rfl
  show (((cl z).drop (HT.sIx z.length 0 (some (i : Int)))).take (HT.sIx z.length z.length (some ((i : Int) + 2)) - HT.sIx z.length 0 (some (i : Int)))) = _
  rw [e, HT.sIx_nat, HT.sIx_nat]
  have hcl := cl_len z
  by_cases h : i ≤ z.length
  · rw [Nat.min_eq_left h]
    by_cases h2 : i + 2 ≤ z.length
    · rw [Nat.min_eq_left h2, show i + 2 - i = 2 by omega]
    · rw [Nat.min_eq_right (by omega), List.take_of_length_le (by rw [List.length_drop]; omega), List.take_of_length_le (by rw [List.length_drop]; omega)]
  · rw [Nat.min_eq_right (by omega), Nat.min_eq_right (by omega), show (cl z).drop z.length = [] from List.drop_eq_nil_of_le (by omega), show (cl z).drop i = [] from List.drop_eq_nil_of_le (by omega)]
    simp
theorem in_prs (z : Str) : inV (.str z) [.str "==", .str "!=", .str "<=", .str ">=", .str "&&", .str "||", .str "->"] = decide (cl z ∈ prs) := by
  have q : ∀ y : Str, eqV (.str y) (.str z) = decide (cl z = cl y) := fun y => by
    show (y == z) = _
    rw [Bool.eq_iff_iff]
    simp only [beq_iff_eq, decide_eq_true_eq]
    rw [str_eq]; exact ⟨Eq.symm, Eq.symm⟩
  unfold inV prs
  simp only [List.any_cons, List.any_nil, q, Bool.or_false, List.mem_cons, List.not_mem_nil, or_false, Bool.decide_or]
  have e1 : cl ("==" : Str) = [61, 61] := by decide +kernel
  have e2 : cl ("!=" : Str) = [33, 61] := by decide +kernel
  have e3 : cl ("<=" : Str) = [60, 61] := by decide +kernel
  have e4 : cl (">=" : Str) = [62, 61] := by decide +kernel
  have e5 : cl ("&&" : Str) = [38, 38] := by decide +kernel
  have e6 : cl ("||" : Str) = [124, 124] := by decide +kernel
  have e7 : cl ("->" : Str) = [45, 62] := by decide +kernel
  rw [e1, e2, e3, e4, e5, e6, e7]
theorem ok_token_end {P : Program} {w : World} {K : PySem.W.Frag} {mg : Str → Option Value} (T : Top w K mg) : ∃ fd : FuncData, FunD K "token_end" "token_end" (defArgs st_token_end) (defBody st_token_end) (defScope st_token_end) (dd_token_end.dvs K) (dd_token_end.kws K) (He.ga K "token_end") fd ∧ ∀ base : Heap, FnOk P w K mg base CX0 2 (He.ga K "token_end") fd ["row", "at"] sp_token_end := by
  obtain ⟨fd, F⟩ := T.f_token_end
  refine ⟨fd, F, fun base => F.ok sc_token_end (fun vs H Q E h => by obtain ⟨_, _, rfl, _⟩ := h; rfl) (fun cdv A outer s H vs Q E hr h => ⟨_, PSs.nox
 ((pss_cons (ps_set (i := 2) sc_token_end.nd rfl (Or.inl rfl) (pe_ix ix_str (pv 0) (pv 1) (fun _ _ => rfl)))
 (pss_cons (ps_if (pt_cmpR op_eq (pv 2) pe_str (nomark _))
 (pss_cons (ps_set (i := 3) sc_token_end.nd rfl (Or.inl rfl) (pe_bm PySem.F.plainAttrs_str PySem.F.slot_str_find PySem.F.type_str_find mt_find3 (pv 0) (pa_cons pe_str (pa_cons (pe_op op_add (pv 1) pe_int) pa_nil))))
 (pss_one (ps_ret (pe_ifExp (pt_cmpR op_lt (pv 3) pe_int (nomark _)) pe_non (pe_op op_add (pv 3) pe_int)))))
 pss_nil)
 (pss_cons (ps_if (PW.pt (pw_or (pt_cmpR op_in_sign (pv 2) (pe_gs T.s_LETTERS) (by rfl)) (pw_or1 (pt_cmpR op_in_sign (pv 2) (pe_gs T.s_FIGURES) (by rfl)))))
 (pss_one (ps_ret (pc (cal_word_end T) hr (by decide) L2.pass0 rfl (pa_cons (pv 0) (pa_cons (pv 1) pa_nil)))))
 pss_nil)
 (pss_one (ps_ret (pe_ifExp (pt_cmpR op_in_seq (pe_slice sl_str (pv 0) (po_some (pv 1)) (po_some (pe_op op_add (pv 1) pe_int))) (pe_gr T.g_PAIRS) (by rfl)) (pe_op op_add (pv 1) pe_int) (pe_op op_add (pv 1) pe_int)))))))), ?_⟩)⟩
  obtain ⟨z, i, rfl, hz, hi, kQ⟩ := h
  have hcl := cl_len z
  have hi' : i < (cl z).length := by omega
  obtain ⟨c, r, hd⟩ : ∃ c r, (cl z).drop i = c :: r := ⟨_, _, List.drop_eq_getElem_cons hi'⟩
  have hx : (cl z)[i]? = some c := by
    have q : ((cl z).drop i)[0]? = some c := by rw [hd]; rfl
    rwa [List.getElem?_drop, Nat.add_zero] at q
  have hr1 : (cl z).drop (i + 1) = r := by
    have q : ((cl z).drop i).drop 1 = r := by rw [hd]; rfl
    rwa [List.drop_drop] at q
  have hc1 : ∀ y : Str, y.length = 1 → (decide (V.str ⟨#[c]⟩ = V.str y)) = decide (c = (cl y).getD 0 0) := fun y hy => by
    rw [decide_eq_decide, V.str.injEq, str_eq]
    have hyl := cl_len y
    show [c] = cl y ↔ _
    cases e : cl y with
    | nil => rw [e] at hyl; simp at hyl; omega
    | cons a b =>
      have hb : b = [] := by rw [e] at hyl; simp at hyl; exact List.eq_nil_of_length_eq_zero (by omega)
      subst hb
      simp
  rw [hd, tokLen_cons] at kQ
  refine ⟨_, rfl, _, rfl, z, _, _, rfl, rfl, hz, atI_nat hx, _, rfl, rfl, _, rfl, ?_⟩
  rw [hc1 _ (by decide +kernel), show (cl ("\"" : Str)).getD 0 0 = 34 by decide +kernel]
  refine iteD (fun c34 => ?_) (fun c34 => ?_)
  · rw [if_pos c34] at kQ
    refine ⟨_, rfl, rfl, _, rfl, _, _, rfl, rfl, z, _, _, rfl, rfl, ?_⟩
    rw [find_q z i hi, hr1]
    refine ⟨_, rfl, _, _, rfl, rfl, _, rfl, ?_⟩
    cases q : qAt r with
    | none =>
      rw [q] at kQ
      exact iteT kQ
    | some k =>
      rw [q] at kQ
      show if decide ((i : Int) + 1 + (k : Int) < 0) = true then _ else _
      refine iteD (fun h => absurd h (by omega)) (fun _ => ⟨_, rfl, _, _, rfl, rfl, ?_⟩)
      have e : (i : Int) + 1 + (k : Int) + 1 = (i : Int) + ((k + 2 : Nat) : Int) := by omega
      show Q (.int ((i : Int) + 1 + (k : Int) + 1)) H
      rw [e]; exact kQ
  · rw [if_neg c34] at kQ
    have wcall : isLF c = true → (sp_word_end ([V.str z, V.int i] ++ []) H Q E : Prop) := fun q => by
      rw [if_pos q] at kQ
      refine ⟨z, i, rfl, hz, by omega, by omega, ?_⟩
      rw [Int.toNat_natCast, hd, wE_pos q]; exact kQ
    refine ⟨_, rfl, _, _, rfl, rfl, _, rfl, ?_⟩
    refine iteB (fun a => ?_) (fun a => ?_)
    · exact ⟨_, rfl, _, rfl, wcall (by unfold isLF; rw [show isL _ = true from a]; rfl)⟩
    · refine ⟨_, rfl, _, _, rfl, rfl, _, rfl, ?_⟩
      refine iteB (fun b => ?_) (fun b => ?_)
      · exact ⟨_, rfl, _, rfl, wcall (by unfold isLF; rw [show isF _ = true from b, Bool.or_true])⟩
      · have nq : ¬ isLF c = true := by unfold isLF; rw [show isF _ = false from b, show isL _ = false from a]; decide
        rw [if_neg nq] at kQ
        refine ⟨_, rfl, _, rfl, _, rfl, _, rfl, _, _, rfl, rfl, _, rfl, z, rfl, hz, _, _, rfl, .inr (T.tup_PAIRS H), rfl, rfl, _, rfl, ?_⟩
        have ep := in_prs (cutS z (some (i : Int)) (some ((i : Int) + 2)))
        rw [cut2, hd] at ep
        show if inV _ _ = true then _ else _
        rw [show inV _ _ = _ from ep]
        refine iteD (fun p => ?_) (fun p => ?_)
        · rw [if_pos p] at kQ
          exact ⟨_, rfl, _, _, rfl, rfl, kQ⟩
        · rw [if_neg p] at kQ
          exact ⟨_, rfl, _, _, rfl, rfl, kQ⟩
theorem cal_token_end {P : Program} {w : World} {K : PySem.W.Frag} {mg : Str → Option Value} {base : Heap} (T : Top w K mg) : Callee P w K mg base CX0 2 "token_end" sp_token_end [] := by
  obtain ⟨fd, F, S⟩ := ok_token_end (P := P) T
  exact ⟨fd, _, [], S base, T.g_token_end, F.kp, F.bindsN (fun _ _ _ _ _ _ us hl => match us, hl with | [_, _], _ => rfl), .nil⟩


end Z

namespace Z
open PySem PySem.Spec PyProof.Rows L2
/-! ### the script's cells, the bag of draws -/
def Bag (n f : Int) : Prop := (f = 0 ∧ 0 ≤ n ∧ n < 10 ^ 180) ∨ (f ≠ 0 ∧ 0 < f ∧ 0 ≤ n ∧ n < 2147483647)
def BagAt (H : Hp) (b : Addr) : Prop := ∃ n f : Int, H b = some (.lst [.int n, .int f]) ∧ Bag n f
theorem BagAt.new {H : Hp} {b p : Addr} {o : HO} (h : BagAt H b) (hp : H p = none) : BagAt (upd H p o) b := by
  obtain ⟨n, f, e, B⟩ := h
  exact ⟨n, f, upd_new hp e, B⟩
theorem BagAt.ne {H : Hp} {b p : Addr} (h : BagAt H b) (hp : H p = none) : b ≠ p := by
  obtain ⟨n, f, e, B⟩ := h
  exact ne_of_none e hp
theorem BagAt.same {H H' : Hp} {b : Addr} (h : BagAt H b) (k : Same H H') : BagAt H' b := by
  obtain ⟨n, f, e, B⟩ := h
  exact ⟨n, f, k _ _ e, B⟩
/-- a text of at most n signs comes, the bag stands -/
def spTxt (n : Nat) : Sp := fun vs H Q _ => ∃ (b : Addr), vs = [.ref b] ∧ BagAt H b ∧ ∀ (z : Str) (H' : Hp), z.length ≤ n → BagAt H' b → Keep [b] H H' → Q (.str z) H'
theorem bag_mut (b : Addr) : Mut b (fun H => BagAt H b) := ⟨fun H D o h n => by
  obtain ⟨x, f, e, B⟩ := h
  exact ⟨x, f, (upd_ne n).trans e, B⟩, fun H h => by
  obtain ⟨x, f, e, B⟩ := h
  exact ⟨_, e⟩⟩
def sp__law_cell (K : PySem.W.Frag) : Sp := fun vs H Q _ => ∃ (a : Addr) (k : Int), vs = [.ref a, .int k] ∧ (∃ ns : List Int, SqL K H a (ns.map V.int) ∧ ns.length ≤ 63) ∧ 0 ≤ k ∧ ∀ i : Int, Q (.int i) H
theorem ok__law_cell {P : Program} {w : World} {K : PySem.W.Frag} {mg : Str → Option Value} (T : Top w K mg) : ∃ fd : FuncData, FunD K "_law_cell" "_law_cell" (defArgs st__law_cell) (defBody st__law_cell) (defScope st__law_cell) (dd__law_cell.dvs K) (dd__law_cell.kws K) (He.ga K "_law_cell") fd ∧ ∀ base : Heap, FnOk P w K mg base CX0 1 (He.ga K "_law_cell") fd ["_law_script", "_law_k"] (sp__law_cell K) := by
  obtain ⟨fd, F⟩ := T.f__law_cell
  refine ⟨fd, F, fun base => F.ok sc__law_cell (fun vs H Q E h => by obtain ⟨_, _, rfl, _⟩ := h; rfl) (fun cdv A outer s H vs Q E hr h => ⟨_, PSs.nox
 ((pss_cons (ps_if (pt_cmpR op_lt (pv 1) (pe_callB call_len_seq (by rfl) T.n_len (by decide +kernel) (pa_cons (pv 0) pa_nil)) (nomark _))
 (pss_one (ps_ret (pe_ix ix_list (pv 0) (pv 1) (fun _ _ => rfl))))
 pss_nil)
 (pss_one (ps_ret pe_int)))), ?_⟩)⟩
  obtain ⟨a, k, rfl, ⟨ns, hS, hl⟩, h0, kQ⟩ := h
  refine ⟨_, rfl, _, rfl, a, _, rfl, .inl hS, _, _, rfl, rfl, _, rfl, ?_⟩
  refine iteD (fun c => ?_) (fun c => kQ 0)
  rw [List.length_map] at c
  have hk : k.toNat < ns.length := by omega
  have hx : (ns.map V.int)[k.toNat]? = some (V.int ns[k.toNat]) := by rw [List.getElem?_map, List.getElem?_eq_getElem hk]; rfl
  exact ⟨_, rfl, _, rfl, a, _, _, _, rfl, rfl, hS, at_of (by omega) hx, kQ _⟩
theorem cal__law_cell {P : Program} {w : World} {K : PySem.W.Frag} {mg : Str → Option Value} {base : Heap} (T : Top w K mg) : Callee P w K mg base CX0 1 "_law_cell" (sp__law_cell K) [] := by
  obtain ⟨fd, F, S⟩ := ok__law_cell (P := P) T
  exact ⟨fd, _, [], S base, T.g__law_cell, F.kp, F.bindsN (fun _ _ _ _ _ _ us hl => match us, hl with | [_, _], _ => rfl), .nil⟩

theorem lt180 {x : Int} : x % (10 ^ 60 * 10 ^ 60 * 10 ^ 60) < 10 ^ 180 := by
  have h := Int.emod_lt_of_pos x (show (0 : Int) < 10 ^ 60 * 10 ^ 60 * 10 ^ 60 by decide)
  have e : (10 ^ 60 * 10 ^ 60 * 10 ^ 60 : Int) = 10 ^ 180 := by decide +kernel
  rw [e] at h ⊢
  exact h
def sp__law_bag (K : PySem.W.Frag) : Sp := fun vs H Q _ => ∃ (a : Addr) (k : Int), vs = [.ref a, .int k] ∧ (∃ ns : List Int, SqL K H a (ns.map V.int) ∧ ns.length ≤ 63) ∧ 0 ≤ k ∧ ∀ (p : Addr) (n f : Int), H p = none → Bag n f → Q (.ref p) (upd H p (.lst [.int n, .int f]))
theorem ok__law_bag {P : Program} {w : World} {K : PySem.W.Frag} {mg : Str → Option Value} (T : Top w K mg) : ∃ fd : FuncData, FunD K "_law_bag" "_law_bag" (defArgs st__law_bag) (defBody st__law_bag) (defScope st__law_bag) (dd__law_bag.dvs K) (dd__law_bag.kws K) (He.ga K "_law_bag") fd ∧ ∀ base : Heap, FnOk P w K mg base CX0 2 (He.ga K "_law_bag") fd ["_law_script", "_law_at"] (sp__law_bag K) := by
  obtain ⟨fd, F⟩ := T.f__law_bag
  refine ⟨fd, F, fun base => F.ok sc__law_bag (fun vs H Q E h => by obtain ⟨_, _, rfl, _⟩ := h; rfl) (fun cdv A outer s H vs Q E hr h => ⟨_, PSs.nox
 ((pss_cons (ps_set (i := 2) sc__law_bag.nd rfl (Or.inl rfl) (pe_op op_mod (pe_callB call_abs (by rfl) T.n_abs (by decide +kernel) (pa_cons (pc (cal__law_cell T) hr (by decide) L2.pass0 rfl (pa_cons (pv 0) (pa_cons (pv 1) pa_nil))) pa_nil)) (pe_op op_mulW (pe_op op_mulW (pe_op op_pow pe_int pe_int) (pe_op op_pow pe_int pe_int)) (pe_op op_pow pe_int pe_int))))
 (pss_cons (ps_if (pt_cmpR op_ge (pv 2) (pe_op op_pow pe_int pe_int) (nomark _))
 (pss_one (ps_ret (pe_lst (pa_cons (pv 2) (pa_cons pe_int pa_nil)))))
 pss_nil)
 (pss_cons (ps_set (i := 3) sc__law_bag.nd rfl (Or.inl rfl) (pe_op op_mod (pe_op op_add (pe_op op_add (pv 2) (pe_op op_mul pe_int (pv 1))) pe_int) pe_int))
 (pss_cons (ps_for PassesOwn.never rfl (pi_range1 rfl T.n_range (pa_cons (pe_callB (call_min2 rfl) (by rfl) T.n_min (by decide +kernel) (pa_cons (pe_callB call_len_seq (by rfl) T.n_len (by decide +kernel) (pa_cons (pv 0) pa_nil)) (pa_cons pe_int pa_nil))) pa_nil)) (pg_name (i := 4) sc__law_bag.nd rfl (Or.inl rfl))
 (pss_one (ps_set (i := 3) sc__law_bag.nd rfl (Or.inl rfl) (pe_op op_mod (pe_op op_add (pe_op op_add (pe_op op_pow (pv 3) pe_int) (pe_op op_mod (pe_ix ix_list (pv 0) (pv 4) (fun _ _ => rfl)) pe_int)) (pe_op op_mul pe_int (pv 4))) pe_int))))
 (pss_one (ps_ret (pe_lst (pa_cons (pv 3) (pa_cons pe_int pa_nil)))))))))), ?_⟩)⟩
  obtain ⟨a, k, rfl, ⟨ns, hS, hl⟩, h0, kQ⟩ := h
  refine ⟨_, rfl, _, rfl, a, k, rfl, ⟨ns, hS, hl⟩, h0, fun i => ?_⟩
  refine ⟨_, rfl, _, _, rfl, rfl, ⟨by decide, by decide, by decide⟩, _, _, rfl, rfl, ⟨by decide, by decide, by decide⟩, _, _, rfl, rfl, wide_mul (a := 300) (b := 300) (by decide +kernel) (by decide +kernel) (by decide) (by decide) (by decide), ?_⟩
  refine ⟨_, _, rfl, rfl, ⟨by decide, by decide, by decide⟩, _, _, rfl, rfl, wide_mul (a := 600) (b := 300) (by decide +kernel) (by decide +kernel) (by decide) (by decide) (by decide), ?_⟩
  refine ⟨_, _, rfl, rfl, (by show (0 : Int) < 10 ^ 60 * 10 ^ 60 * 10 ^ 60; decide +kernel), ?_⟩
  dsimp only
  simp only [show Int.toNat 60 = 60 from rfl]
  generalize hx : (if i < 0 then -i else i) % _ = x
  have hx0 : 0 ≤ x := by rw [← hx]; exact Int.emod_nonneg _ (by decide +kernel)
  have hx1 : x < 10 ^ 180 := by rw [← hx]; exact lt180
  clear hx
  refine ⟨_, rfl, _, _, rfl, rfl, ⟨by decide, by decide, by decide⟩, _, _, rfl, rfl, _, rfl, ?_⟩
  refine iteD (fun c => ?_) (fun c => ?_)
  · exact ⟨_, rfl, (by show 2 ≤ sizeLine; decide), fun p hp => kQ p x 0 hp (.inl ⟨rfl, hx0, hx1⟩)⟩
  refine ⟨_, rfl, _, rfl, _, _, rfl, rfl, .inl ⟨by decide, by decide⟩, _, _, rfl, rfl, _, _, rfl, rfl, _, _, rfl, rfl, (by show (0 : Int) < _; decide), ?_⟩
  refine ⟨_, rfl, a, _, rfl, .inl hS, _, _, rfl, ?_⟩
  rw [List.length_map]
  refine ⟨_, rfl, by split <;> omega, by split <;> omega, ?_⟩
  refine for_range (fun j σ H' => H' = H ∧ ∃ (m : Int) (v : Option V), σ = [some (.ref a), some (.int k), some (.int x), some (.int m), v] ∧ 0 ≤ m ∧ m < 2147483647) ⟨rfl, _, none, rfl, Int.emod_nonneg _ (by decide), Int.emod_lt_of_pos _ (by decide)⟩ ?_ ?_
  · rintro j σ H' hj ⟨rfl, m, v, rfl, m0, m1⟩
    have hj' : j < ns.length := by split at hj <;> omega
    have hx : (ns.map V.int)[j]? = some (V.int ns[j]) := by rw [List.getElem?_map, List.getElem?_eq_getElem hj']; rfl
    refine ⟨_, rfl, _, _, rfl, rfl, ⟨by decide, by decide, by omega⟩, _, rfl, _, rfl, a, _, _, _, rfl, rfl, hS, at_of (by omega) hx, _, _, rfl, rfl, (by show (0 : Int) < _; decide), _, _, rfl, rfl, _, rfl, _, _, rfl, rfl, .inl ⟨by decide, by decide⟩, _, _, rfl, rfl, _, _, rfl, rfl, (by show (0 : Int) < _; decide), ?_⟩
    exact ⟨rfl, _, _, rfl, Int.emod_nonneg _ (by decide), Int.emod_lt_of_pos _ (by decide)⟩
  · rintro σ H' ⟨rfl, m, v, rfl, m0, m1⟩
    exact ⟨_, rfl, (by show 2 ≤ sizeLine; decide), fun p hp => kQ p m 1 hp (.inr ⟨by decide, by decide, m0, m1⟩)⟩
theorem cal__law_bag {P : Program} {w : World} {K : PySem.W.Frag} {mg : Str → Option Value} {base : Heap} (T : Top w K mg) : Callee P w K mg base CX0 2 "_law_bag" (sp__law_bag K) [] := by
  obtain ⟨fd, F, S⟩ := ok__law_bag (P := P) T
  exact ⟨fd, _, [], S base, T.g__law_bag, F.kp, F.bindsN (fun _ _ _ _ _ _ us hl => match us, hl with | [_, _], _ => rfl), .nil⟩

def sp__law_take : Sp := fun vs H Q _ => ∃ (b : Addr) (m : Int), vs = [.ref b, .int m] ∧ BagAt H b ∧ 0 < m ∧ m ≤ 1000000 ∧ ∀ (r : Int) (H' : Hp), 0 ≤ r → r < m → BagAt H' b → Keep [b] H H' → Q (.int r) H'
theorem ok__law_take {P : Program} {w : World} {K : PySem.W.Frag} {mg : Str → Option Value} (T : Top w K mg) : ∃ fd : FuncData, FunD K "_law_take" "_law_take" (defArgs st__law_take) (defBody st__law_take) (defScope st__law_take) (dd__law_take.dvs K) (dd__law_take.kws K) (He.ga K "_law_take") fd ∧ ∀ base : Heap, FnOk P w K mg base CX0 1 (He.ga K "_law_take") fd ["_law_bag_here", "_law_many"] sp__law_take := by
  obtain ⟨fd, F⟩ := T.f__law_take
  refine ⟨fd, F, fun base => F.ok sc__law_take (fun vs H Q E h => by obtain ⟨_, _, rfl, _⟩ := h; rfl) (fun cdv A outer s H vs Q E hr h => ⟨_, PSs.nox
 ((pss_cons (ps_if (pt_cmpR op_eq (pe_ix ix_list (pv 0) pe_int (fun _ _ => rfl)) pe_int (nomark _))
 (pss_cons (ps_set (i := 2) sc__law_take.nd rfl (Or.inl rfl) (pe_op op_mod (pe_ix ix_list (pv 0) pe_int (fun _ _ => rfl)) (pv 1)))
 (pss_cons (ps_asg (pe_op op_fdivW (pe_ix ix_list (pv 0) pe_int (fun _ _ => rfl)) (pv 1)) (pg_sub (pv 0) pe_int set_list))
 (pss_one (ps_ret (pv 2)))))
 pss_nil)
 (pss_cons (ps_asg (pe_op op_mod (pe_op op_add (pe_op op_add (pe_op op_pow (pe_ix ix_list (pv 0) pe_int (fun _ _ => rfl)) pe_int) (pe_op op_mul pe_int (pe_ix ix_list (pv 0) pe_int (fun _ _ => rfl)))) pe_int) pe_int) (pg_sub (pv 0) pe_int set_list))
 (pss_cons (ps_asg (pe_op op_add (pe_ix ix_list (pv 0) pe_int (fun _ _ => rfl)) pe_int) (pg_sub (pv 0) pe_int set_list))
 (pss_one (ps_ret (pe_op op_mod (pe_op op_fdivW (pe_op op_mod (pe_op op_mul (pe_ix ix_list (pv 0) pe_int (fun _ _ => rfl)) pe_int) pe_int) pe_int) (pv 1)))))))), ?_⟩)⟩
  obtain ⟨b, m, rfl, ⟨n, f, hb, B⟩, hm0, hm1, kQ⟩ := h
  refine ⟨_, rfl, b, _, _, _, rfl, rfl, SqL.of hb, rfl, rfl, _, rfl, ?_⟩
  refine iteB (fun c => ?_) (fun c => ?_)
  · have e : f = 0 := by simpa using c
    subst e
    have hn : 0 ≤ n ∧ n < 10 ^ 180 := by
      rcases B with ⟨_, h⟩ | ⟨h, _⟩
      · exact h
      · exact absurd rfl h
    refine ⟨_, rfl, b, _, _, _, rfl, rfl, SqL.of hb, rfl, _, rfl, _, _, rfl, rfl, hm0, ?_⟩
    refine ⟨_, rfl, b, _, _, _, rfl, rfl, SqL.of hb, rfl, _, rfl, _, _, rfl, rfl, wide_div (b := 30) hm0 (by omega) (by decide) (by decide), ?_⟩
    refine ⟨_, rfl, b, _, _, _, rfl, rfl, hb, rfl, ?_⟩
    refine ⟨_, rfl, ?_⟩
    have q0 : 0 ≤ n / m := Int.ediv_nonneg hn.1 (Int.le_of_lt hm0)
    have q1 : n / m ≤ n := Int.ediv_le_self m hn.1
    exact kQ _ _ (Int.emod_nonneg _ (by omega)) (Int.emod_lt_of_pos _ hm0) ⟨n / m, 0, upd_same, .inl ⟨rfl, q0, Int.lt_of_le_of_lt q1 hn.2⟩⟩ Keep.refl.upd
  · have e : f ≠ 0 := by simpa using c
    have hn : 0 < f ∧ 0 ≤ n ∧ n < 2147483647 := by
      rcases B with ⟨h, _⟩ | ⟨_, h⟩
      · exact absurd h e
      · exact h
    refine ⟨_, rfl, b, _, _, _, rfl, rfl, SqL.of hb, rfl, _, _, rfl, rfl, ⟨by decide, by decide, by omega⟩, _, rfl, b, _, _, _, rfl, rfl, SqL.of hb, rfl, _, _, rfl, rfl, .inl ⟨by decide, by decide⟩, _, _, rfl, rfl, _, _, rfl, rfl, _, _, rfl, rfl, (by show (0 : Int) < _; decide), ?_⟩
    dsimp only
    generalize hx : (n ^ _ + _ + _ : Int) % 2147483647 = x
    have x0 : 0 ≤ x := by rw [← hx]; exact Int.emod_nonneg _ (by decide)
    have x1 : x < 2147483647 := by rw [← hx]; exact Int.emod_lt_of_pos _ (by decide)
    clear hx
    refine ⟨_, rfl, b, _, _, _, rfl, rfl, hb, rfl, ?_⟩
    refine ⟨_, rfl, b, _, _, _, rfl, rfl, SqL.of upd_same, rfl, _, _, rfl, rfl, _, rfl, b, _, _, _, rfl, rfl, upd_same, rfl, ?_⟩
    rw [upd_upd]
    refine ⟨_, rfl, b, _, _, _, rfl, rfl, SqL.of upd_same, rfl, _, _, rfl, rfl, .inr ⟨by decide, by decide⟩, _, _, rfl, rfl, (by show (0 : Int) < _; decide), _, _, rfl, rfl, wide_div (b := 30) (by decide) (by decide) (by decide) (by decide), _, rfl, _, _, rfl, rfl, hm0, ?_⟩
    exact kQ _ _ (Int.emod_nonneg _ (by omega)) (Int.emod_lt_of_pos _ hm0) ⟨x, f + 1, upd_same, .inr ⟨by omega, by omega, x0, x1⟩⟩ Keep.refl.upd
theorem cal__law_take {P : Program} {w : World} {K : PySem.W.Frag} {mg : Str → Option Value} {base : Heap} (T : Top w K mg) : Callee P w K mg base CX0 1 "_law_take" sp__law_take [] := by
  obtain ⟨fd, F, S⟩ := ok__law_take (P := P) T
  exact ⟨fd, _, [], S base, T.g__law_take, F.kp, F.bindsN (fun _ _ _ _ _ _ us hl => match us, hl with | [_, _], _ => rfl), .nil⟩


end Z

namespace Z
open PySem PySem.Spec PyProof.Rows L2
/-! ### Piece, pieces_of -/
theorem putF_Pc1 (x y : V) : putF ("signs" : Str) y (putF ("text" : Str) x []) = ([(("text" : Str), x), (("signs" : Str), y)] : List (Str × V)) := by
  rw [putF_nil, putF_ne _ _ _ (by decide +kernel), putF_nil]
theorem putF_Pc (x y z : V) : putF ("paint" : Str) z ([(("text" : Str), x), (("signs" : Str), y)] : List (Str × V)) = ([(("text" : Str), x), (("signs" : Str), y), (("paint" : Str), z)] : List (Str × V)) := by
  rw [putF_ne _ _ _ (by decide +kernel), putF_ne _ _ _ (by decide +kernel), putF_nil]
def sp_Piece_init (K : PySem.W.Frag) : Sp := fun vs H Q _ => ∃ (a dx : Addr) (x y z : V), vs = [.ref a, x, y, z] ∧ H a = some (.ins (He.ga K "Piece") dx []) ∧ Q .non (upd H a (.ins (He.ga K "Piece") dx [(("text" : Str), x), (("signs" : Str), y), (("paint" : Str), z)]))
theorem ok_Piece_init {P : Program} {w : World} {K : PySem.W.Frag} {mg : Str → Option Value} (T : Top w K mg) : ∃ fd : FuncData, FunD K "__init__" "Piece.__init__" (defArgs st_Piece_init) (defBody st_Piece_init) (defScope st_Piece_init) (dd_Piece_init.dvs K) (dd_Piece_init.kws K) (He.ma K (He.ga K "Piece") "__init__") fd ∧ ∀ base : Heap, FnOk P w K mg base CX0 1 (He.ma K (He.ga K "Piece") "__init__") fd ["self", "text", "signs", "paint"] (sp_Piece_init K) := by
  obtain ⟨fd, F⟩ := T.f_Piece_init
  refine ⟨fd, F, fun base => F.ok sc_Piece_init (fun vs H Q E h => by obtain ⟨_, _, _, _, _, rfl, _⟩ := h; rfl) (fun cdv A outer s H vs Q E hr h => ⟨_, PSs.nox
 ((pss_cons (ps_fld (pv 0) (pv 1) rfl)
 (pss_cons (ps_fld (pv 0) (pv 2) rfl)
 (pss_one (ps_fld (pv 0) (pv 3) rfl))))), ?_⟩)⟩
  obtain ⟨a, dx, x, y, z, rfl, ha, kQ⟩ := h
  have c := T.ci_Piece.cls
  refine ⟨_, rfl, _, rfl, a, _, dx, _, rfl, ha, c, T.na_Piece_text, by simp, ?_⟩
  refine ⟨_, rfl, _, rfl, a, _, dx, _, rfl, upd_same, c, T.na_Piece_signs, by rw [putF_nil]; simp, ?_⟩
  rw [putF_Pc1]
  refine ⟨_, rfl, _, rfl, a, _, dx, _, rfl, upd_same, c, T.na_Piece_paint, by simp, ?_⟩
  rw [upd_upd, upd_upd, putF_Pc]
  exact kQ

def sp_Piece_stands (K : PySem.W.Frag) : Sp := fun vs H Q _ => ∃ (v : V) (p : Pc) (s : Sg) (r : List Sg), vs = [v] ∧ PcAt K H v p ∧ p.signs = s :: r ∧ ∀ q, H q = none → Q (.ref q) (upd H q (.tup [.str s.page, .int s.row, .int s.col]))
theorem ok_Piece_stands {P : Program} {w : World} {K : PySem.W.Frag} {mg : Str → Option Value} (T : Top w K mg) : ∃ fd : FuncData, FunD K "stands" "Piece.stands" (defArgs st_Piece_stands) (defBody st_Piece_stands) (defScope st_Piece_stands) (dd_Piece_stands.dvs K) (dd_Piece_stands.kws K) (He.ma K (He.ga K "Piece") "stands") fd ∧ ∀ base : Heap, FnOk P w K mg base CX0 1 (He.ma K (He.ga K "Piece") "stands") fd ["self"] (sp_Piece_stands K) := by
  obtain ⟨fd, F⟩ := T.f_Piece_stands
  refine ⟨fd, F, fun base => F.ok sc_Piece_stands (fun vs H Q E h => by obtain ⟨_, _, _, _, rfl, _⟩ := h; rfl) (fun cdv A outer s H vs Q E hr h => ⟨_, PSs.nox
 ((pss_one (ps_ret (pe_slice sl_tupA (pe_ix ix_tup (pe_fld (pv 0) rfl) pe_int (fun _ _ => rfl)) po_none (po_some pe_int))))), ?_⟩)⟩
  obtain ⟨v, p, s, r, rfl, ⟨a, dx, sa, pa, rfl, h1, h2, h3⟩, hs, kQ⟩ := h
  have c := T.ci_Piece.cls
  obtain ⟨ss_, e1, e2⟩ := h2
  rw [hs] at e2
  cases e2 with
  | cons g gr =>
    obtain ⟨b, u, rfl, b1, b2⟩ := g
    refine ⟨_, rfl, a, _, dx, _, _, rfl, h1, c, T.na_Piece_signs, rfl, ?_⟩
    refine ⟨sa, _, _, _, rfl, rfl, e1, atI_nat (j := 0) rfl, ?_⟩
    exact ⟨3, rfl, b, _, rfl, b1, fun z => absurd z.2 (by simp [HT.sIx, clipAt]), fun _ q hq => kQ q hq⟩

def sp_pieces_of (K : PySem.W.Frag) : Sp := fun vs H Q _ => ∃ (z page : Str) (number : Int) (t : List Tk), vs = [.str z, .str page, .int number] ∧ z.length ≤ 100000 ∧ lexOf 0 (cl z) = .ok t ∧
  ∀ (p : Addr) (us : List V) (H' : Hp), H p = none → H' p = some (.lst us) → Paired (PcAt K H') us (t.map (pcOf page number)) → Same H H' → Q (.ref p) H'
theorem mkr_Piece_init_2 {P : Program} {w : World} {K : PySem.W.Frag} {mg : Str → Option Value} {base : Heap} (T : Top w K mg) : Maker P w K mg base CX0 1 "Piece" (sp_Piece_init K) [V.ref (He.dflAt ("Piece", some "__init__") 0 K)] := by
  obtain ⟨fd, F, S⟩ := ok_Piece_init (P := P) T
  obtain ⟨ds, hV, hB⟩ := F.binds1 (ps := ["self", "text", "signs", "paint"]) 3 0 (fun z => nomatch z) rfl (fun _ _ _ _ _ _ _ us its h1 h2 => match us, its, h1, h2 with | [_, _, _], [_], _, _ => ⟨_, rfl, rfl⟩)
  exact ⟨_, fd, _, ds, T.mk_Piece, S base, T.g_Piece, hB, hV⟩
theorem ok_pieces_of {P : Program} {w : World} {K : PySem.W.Frag} {mg : Str → Option Value} (T : Top w K mg) : ∃ fd : FuncData, FunD K "pieces_of" "pieces_of" (defArgs st_pieces_of) (defBody st_pieces_of) (defScope st_pieces_of) (dd_pieces_of.dvs K) (dd_pieces_of.kws K) (He.ga K "pieces_of") fd ∧ ∀ base : Heap, FnOk P w K mg base CX0 3 (He.ga K "pieces_of") fd ["row", "page", "number"] (sp_pieces_of K) := by
  obtain ⟨fd, F⟩ := T.f_pieces_of
  refine ⟨fd, F, fun base => F.ok sc_pieces_of (fun vs H Q E h => by obtain ⟨_, _, _, _, rfl, _⟩ := h; rfl) (fun cdv A outer s H vs Q E hr h => ⟨_, PSs.nox
 ((pss_cons (ps_set (i := 3) sc_pieces_of.nd rfl (Or.inl rfl) (pe_lst pa_nil))
 (pss_cons (ps_set (i := 4) sc_pieces_of.nd rfl (Or.inl rfl) pe_int)
 (pss_cons (ps_while PassesOwn.never (pt_cmpR op_lt (pv 4) (pe_callB call_len_str (by rfl) T.n_len (by decide +kernel) (pa_cons (pv 0) pa_nil)) (nomark _))
 (pss_cons (ps_set (i := 5) sc_pieces_of.nd rfl (Or.inl rfl) (pe_op op_add (pv 4) pe_int))
 (pss_cons (ps_if (pt_cmpR op_ne (pe_ix ix_str (pv 0) (pv 4) (fun _ _ => rfl)) pe_str (nomark _))
 (pss_cons (ps_set (i := 5) sc_pieces_of.nd rfl (Or.inl rfl) (pc (cal_token_end T) hr (by decide) L2.pass0 rfl (pa_cons (pv 0) (pa_cons (pv 4) pa_nil))))
 (pss_cons (ps_if (pt_cmpR op_isN (pv 5) pe_non (nomark _))
 (pss_one ps_never)
 pss_nil)
 (pss_one (ps_expr (pe_bm PySem.F.plainAttrs_list PySem.F.slot_list_append PySem.F.type_list_append mt_append (pv 3) (pa_cons (pmk (mkr_Piece_init_2 T) hr (by decide) L2.pass0 rfl (pa_cons (pe_slice sl_str (pv 0) (po_some (pv 4)) (po_some (pv 5))) (pa_cons (pe_tupleOf (by rfl) T.n_tuple (pe_lc (own := [("column", 6)]) (g := gName 6) (tt := tYes) rfl sc_pieces_of.nd (pi_range2 rfl T.n_range (pa_cons (pv 4) (pa_cons (pv 5) pa_nil))) (blkOk_by (N := ["row", "page", "number", "found", "at", "end", "column"]) (sc := defScope st_pieces_of) (by decide +kernel)) (fun _ _ _ _ _ => pg_name (i := 6) sc_pieces_of.nd rfl (Or.inl rfl)) (fun _ _ _ _ _ => pts_nil) (fun _ _ _ _ _ => (pe_tup (pa_cons (pv 1) (pa_cons (pv 2) (pa_cons (pv 6) (pa_cons (pe_tup pa_nil) pa_nil)))))))) pa_nil))) pa_nil))))))
 pss_nil)
 (pss_one (ps_set (i := 4) sc_pieces_of.nd rfl (Or.inl rfl) (pv 5))))))
 (pss_one (ps_ret (pv 3))))))), ?_⟩)⟩
  obtain ⟨z, page, number, t, rfl, hz, hlex, kQ⟩ := h
  have hcl := cl_len z
  have tk : ∀ {n : Nat} {c : Nat} {r : List Nat}, (cl z).drop n = c :: r → n < z.length := fun {n c r} e => by
    have := congrArg List.length e
    rw [List.length_drop, List.length_cons] at this
    omega
  refine ⟨Nat.zero_le _, fun p hp => ?_⟩
  generalize hZ : upd _ p _ = H1
  have e1 := at_of3 hZ
  have S1 := same_of3 hZ hp
  clear hZ
  refine ⟨fun m σ H' => ∃ (n : Nat) (acc : List Tk) (us : List V) (o : Option V), σ = [some (.str z), some (.str page), some (.int number), some (.ref p), some (.int n), o, none] ∧ n ≤ z.length ∧ acc.length ≤ n ∧ m = z.length - n ∧ H' p = some (.lst us) ∧ Paired (PcAt K H') us (acc.map (pcOf page number)) ∧ Same H H' ∧ lexOf 0 (cl z) = cat acc (lexOf n ((cl z).drop n)), ⟨_, 0, [], [], none, rfl, by omega, Nat.le_refl _, rfl, e1, .nil, S1, by rw [cat_nil, List.drop_zero]⟩, ?_⟩
  rintro m σ H2 ⟨n, acc, us, o, rfl, hn, ha, rfl, e2, P2, S2, hl⟩
  refine ⟨_, rfl, _, rfl, z, rfl, by rw [ss]; omega, _, _, rfl, rfl, _, rfl, ?_⟩
  refine iteD (fun c1 => ?_) (fun c1 => ?_)
  · have c1' : n < (cl z).length := by omega
    obtain ⟨c, r, hd⟩ : ∃ c r, (cl z).drop n = c :: r := ⟨_, _, List.drop_eq_getElem_cons c1'⟩
    have hx : (cl z)[n]? = some c := by
      have q : ((cl z).drop n)[0]? = some c := by rw [hd]; rfl
      rwa [List.getElem?_drop, Nat.add_zero] at q
    have dn : ∀ k, (cl z).drop (n + k) = (c :: r).drop k := fun k => by rw [← hd, List.drop_drop]
    rw [hd] at hl
    refine ⟨_, fun _ _ h => h, _, rfl, _, _, rfl, rfl, ?_⟩
    refine ⟨_, rfl, _, rfl, z, _, _, rfl, rfl, by rw [ss]; omega, atI_nat hx, rfl, _, rfl, ?_⟩
    rw [one_bl, V_one]
    refine iteDN (fun c2 => ?_) (fun c2 => ?_)
    · cases hk : tokLen (c :: r) with
      | none =>
        exfalso
        rw [lexOf_none c2 hk] at hl
        rw [hlex] at hl
        cases hl
      | some k =>
        rw [lexOf_some c2 hk, cat_cat] at hl
        have hb := tokLen_le hk
        have hrl : n + (r.length + 1) = z.length := by
          have := congrArg List.length hd
          rw [List.length_drop, List.length_cons] at this
          omega
        refine ⟨_, rfl, _, rfl, z, n, rfl, by rw [ss]; omega, by omega, ?_⟩
        rw [hd, hk]
        refine ⟨_, rfl, rfl, _, rfl, iteF ?_⟩
        refine ⟨_, rfl, .inl ⟨rfl, _, SqL.of e2⟩, _, rfl, _, rfl, _, rfl, _, rfl, _, rfl, z, rfl, by rw [ss]; omega, ?_⟩
        refine ⟨_, rfl, _, rfl, n, (n : Int) + (k : Nat), rfl, ⟨by omega, by omega, by omega, by omega⟩, fun D hD => ?_⟩
        have ek : ((n : Int) + (k : Nat) - (n : Int)).toNat = k := by omega
        rw [ek]
        refine lc_it walk_range (fun i H' => Same H2 H' ∧ ∃ vs, H' D = some (.lst vs) ∧ vs.length = i ∧ Paired (SgAt K H') vs ((List.range i).map fun j => ⟨page, number, (n + j : Nat), []⟩)) ⟨(Same.refl H2).new hD, [], upd_same, rfl, .nil⟩ (fun _ _ _ _ => True.intro) ?_ ?_
        · rintro i x H3 H4 hi ⟨S3, vs, e3, hv, P3⟩ ⟨rfl, rfl⟩
          refine ⟨rfl, _, rfl, _, rfl, _, rfl, Nat.zero_le _, fun q1 hq1 => ?_⟩
          generalize hZ : upd _ q1 _ = H5
          have e5 := at_of3 hZ
          have S5 := same_of3 hZ hq1
          clear hZ
          refine ⟨(by show 4 ≤ sizeLine; decide), fun q2 hq2 => ?_⟩
          generalize hZ : upd _ q2 _ = H6
          have e6 := at_of3 hZ
          have S6 := same_of3 hZ hq2
          clear hZ
          have hDD := S6 _ _ (S5 _ _ e3)
          refine ⟨vs, hDD, by rw [hv, ss]; omega, ((S3.trans S5).trans S6).upd hD, vs ++ [.ref q2], upd_same, by simp [hv], ?_⟩
          rw [List.range_succ, List.map_append]
          refine pSnoc ?_ (L2.Paired.mapP P3 fun _ _ g => g.stay ((S5.trans S6).stay.updL hDD))
          have e5' := S6 _ _ e5
          exact ⟨q2, q1, rfl, SqT.of (by rw [upd_ne (ne_of e6 hDD (by intro z; cases z))]; exact e6), SqT.of (by rw [upd_ne (ne_of e5' hDD (by intro z; cases z))]; exact e5')⟩
        · rintro H3 ⟨S3, vs, e3, hv, P3⟩
          refine .inl ⟨D, vs, rfl, SqL.of e3, fun sa hsa => ?_⟩
          generalize hZ : upd _ sa _ = H4
          have e4 := at_of3 hZ
          have S4 := same_of3 hZ hsa
          clear hZ
          intro x dx hx1 hdx hxd
          have S5 : Same H2 (upd (upd H4 dx (.own x)) x (.ins (He.ga K "Piece") dx [])) := ((S3.trans S4).new hdx).new (by rw [upd_ne hxd.symm]; exact hx1)
          refine ⟨x, dx, _, _, _, rfl, upd_same, rfl, ?_⟩
          rw [upd_upd]
          have S6 : ∀ {o1 o2 : HO}, Same H4 (upd (upd H4 dx o1) x o2) := fun {o1 o2} => ((Same.refl H4).new hdx).new (by rw [upd_ne hxd.symm]; exact hx1)
          have e6 : ∀ {o1 o2 : HO}, (upd (upd H4 dx o1) x o2) p = some (.lst us) := fun {o1 o2} => S6 _ _ (S4 _ _ (S3 _ _ e2))
          have la : us.length = acc.length := by rw [pLen P2, List.length_map]
          refine ⟨p, us, _, rfl, rfl, e6, by rw [ss]; omega, _, rfl, z.length - (n + k), by omega, n + k, acc ++ [((c :: r).take k, n)], us ++ [.ref x], _, rfl, by omega, by rw [List.length_append]; show acc.length + 1 ≤ _; omega, rfl, upd_same, ?_, ?_, ?_⟩
          · rw [List.map_append]
            have hx7 : ∀ {o1 o2 : HO}, (upd (upd H4 dx o1) x o2) x = some o2 := fun {o1 o2} => upd_same
            have st : ∀ {o1 o2 o3 : HO}, Stay H4 (upd (upd (upd H4 dx o1) x o2) p o3) := fun {o1 o2 o3} => S6.stay.updL e6
            have nx : x ≠ p := (ne_of_none (S4 _ _ (S3 _ _ e2)) hx1).symm
            refine pSnoc ⟨x, dx, sa, _, rfl, (upd_old nx upd_same).trans ?_, ⟨vs, SqT.of (st _ _ e4 rfl), ?_⟩, T.dfl_Piece_init_0 _⟩ (pcs_stay P2 (((S3.trans S4).stay).trans st))
            · have q : cl (cutS z (some (n : Int)) (some ((n + k : Nat) : Int))) = (c :: r).take k := by rw [cut_nat, hd, Nat.add_sub_cancel_left]
              have q2 := cut_eq q
              show some (HO.ins _ _ [(("text" : Str), V.str (cutS z (some (n : Int)) (some ((n + k : Nat) : Int)))), _, _]) = _
              rw [q2]; rfl
            · have q : ((c :: r).take k).length = k := by rw [List.length_take, List.length_cons]; omega
              show Paired _ _ ((List.range ((c :: r).take k).length).map _)
              rw [q]
              exact L2.Paired.mapP P3 fun _ _ g => g.stay (S4.stay.trans st)
          · exact ((S2.trans S3).trans (S4.trans S6)).upd hp
          · rw [dn]; exact hl
    · subst c2
      rw [lexOf_bl] at hl
      have dn1 := dn 1
      refine ⟨_, rfl, z.length - (n + 1), by omega, n + 1, acc, us, _, rfl, by omega, by omega, rfl, e2, P2, S2, ?_⟩
      rw [show (cl z).drop (n + 1) = r from dn1]
      exact hl
  · have e0 : n = z.length := by omega
    subst e0
    rw [List.drop_eq_nil_of_le (by omega), lexOf_nil, hlex] at hl
    have et : t = acc := by
      have q : Except.ok t = Except.ok (acc ++ []) := hl
      rw [List.append_nil] at q
      exact Except.ok.inj q
    subst et
    exact ⟨_, rfl, kQ p us H2 hp e2 P2 S2⟩


end Z

namespace Z
open PySem PySem.Spec PyProof.Rows L2
/-! ### k02: rows read -/
theorem l30 : ("!#$&'()*+,-./:;<=>?\x40[\\]^_`{|}~" : Str).length = 30 := by decide +kernel
theorem l62 : ("abcdefghijklmnopqrstuvwxyzABCDEFGHIJKLMNOPQRSTUVWXYZ0123456789" : Str).length = 62 := by decide +kernel
theorem l35 : (("!#$&'()*+,-./:;<=>?\x40[\\]^_`{|}~" : Str) ++ (" aZ09" : Str)).length = 35 := by decide +kernel
def sp__law_token : Sp := spTxt 8
theorem ok__law_token {P : Program} {w : World} {K : PySem.W.Frag} {mg : Str → Option Value} (T : Top w K mg) : ∃ fd : FuncData, FunD K "_law_token" "_law_token" (defArgs st__law_token) (defBody st__law_token) (defScope st__law_token) (dd__law_token.dvs K) (dd__law_token.kws K) (He.ga K "_law_token") fd ∧ ∀ base : Heap, FnOk P w K mg base CX0 2 (He.ga K "_law_token") fd ["_law_bag_here"] sp__law_token := by
  obtain ⟨fd, F⟩ := T.f__law_token
  refine ⟨fd, F, fun base => F.ok sc__law_token (fun vs H Q E h => by obtain ⟨_, rfl, _⟩ := h; rfl) (fun cdv A outer s H vs Q E hr h => ⟨_, PSs.nox
 ((pss_cons (ps_set (i := 1) sc__law_token.nd rfl (Or.inr rfl) pe_str)
 (pss_cons (ps_set (i := 2) sc__law_token.nd rfl (Or.inr rfl) pe_str)
 (pss_cons (ps_set (i := 3) sc__law_token.nd rfl (Or.inl rfl) (pc (cal__law_take T) hr (by decide) L2.pass0 rfl (pa_cons (pv 0) (pa_cons pe_int pa_nil))))
 (pss_cons (ps_if (pt_cmpR op_lt (pv 3) pe_int (nomark _))
 (pss_one (ps_ret (pe_join pe_str (pe_lc (own := [("_law_k", 4)]) (g := gName 4) (tt := tYes) rfl sc__law_token.nd (pi_range1 rfl T.n_range (pa_cons (pe_op op_add pe_int (pc (cal__law_take T) hr (by decide) L2.pass0 rfl (pa_cons (pv 0) (pa_cons pe_int pa_nil)))) pa_nil)) (blkOk_by (N := ["_law_bag_here", "_law_signs", "_law_letters", "_law_way", "_law_k"]) (sc := defScope st__law_token) (by decide +kernel)) (fun _ _ _ _ _ => pg_name (i := 4) sc__law_token.nd rfl (Or.inl rfl)) (fun _ _ _ _ _ => pts_nil) (fun _ _ _ _ _ => (pe_ix ix_str (pv 2) (pc (cal__law_take T) hr (by decide) L2.pass0 rfl (pa_cons (pv 0) (pa_cons pe_int pa_nil))) (fun _ _ => rfl)))))))
 pss_nil)
 (pss_cons (ps_if (pt_cmpR op_eq (pv 3) pe_int (nomark _))
 (pss_one (ps_ret (pe_op op_add_str (pe_op op_add_str pe_str (pe_join pe_str (pe_lc (own := [("_law_k", 4)]) (g := gName 4) (tt := tYes) rfl sc__law_token.nd (pi_range1 rfl T.n_range (pa_cons (pc (cal__law_take T) hr (by decide) L2.pass0 rfl (pa_cons (pv 0) (pa_cons pe_int pa_nil))) pa_nil)) (blkOk_by (N := ["_law_bag_here", "_law_signs", "_law_letters", "_law_way", "_law_k"]) (sc := defScope st__law_token) (by decide +kernel)) (fun _ _ _ _ _ => pg_name (i := 4) sc__law_token.nd rfl (Or.inl rfl)) (fun _ _ _ _ _ => pts_nil) (fun _ _ _ _ _ => (pe_ix ix_str (pe_op op_add_str (pv 1) pe_str) (pc (cal__law_take T) hr (by decide) L2.pass0 rfl (pa_cons (pv 0) (pa_cons pe_int pa_nil))) (fun _ _ => rfl)))))) pe_str)))
 pss_nil)
 (pss_cons (ps_if (pt_cmpR op_eq (pv 3) pe_int (nomark _))
 (pss_one (ps_ret (pe_ix ix_list (pe_lst (pa_cons pe_str (pa_cons pe_str (pa_cons pe_str (pa_cons pe_str (pa_cons pe_str (pa_cons pe_str (pa_cons pe_str pa_nil)))))))) (pc (cal__law_take T) hr (by decide) L2.pass0 rfl (pa_cons (pv 0) (pa_cons pe_int pa_nil))) (fun _ _ => rfl))))
 pss_nil)
 (pss_one (ps_ret (pe_op op_mul_str (pe_ix ix_str (pv 1) (pc (cal__law_take T) hr (by decide) L2.pass0 rfl (pa_cons (pv 0) (pa_cons pe_int pa_nil))) (fun _ _ => rfl)) (pe_ix ix_list (pe_lst (pa_cons pe_int (pa_cons pe_int (pa_cons pe_int (pa_cons pe_int (pa_cons pe_int pa_nil)))))) (pc (cal__law_take T) hr (by decide) L2.pass0 rfl (pa_cons (pv 0) (pa_cons pe_int pa_nil))) (fun _ _ => rfl)))))))))))), ?_⟩)⟩
  obtain ⟨b, rfl, B, kQ⟩ := h
  refine ⟨_, rfl, b, 6, rfl, B, by decide, by decide, fun w H1 w0 w1 B1 k1 => ?_⟩
  refine ⟨_, rfl, _, _, rfl, rfl, _, rfl, iteD (fun c => ?_) (fun c => ?_)⟩
  · refine ⟨⟨_, rfl⟩, _, rfl, b, 6, rfl, B1, by decide, by decide, fun m H2 m0 m1 B2 k2 => ⟨_, _, rfl, rfl, _, rfl, by omega, by omega, fun D hD => ?_⟩⟩
    refine lc_mut walk_range (bag_mut b) (G := TxG 1) (fun _ _ _ h _ => h) ?_ B2 hD ?_ ?_
    · omega
    · rintro i x H3 H4 R hi B3 k3 ⟨rfl, rfl⟩ hR
      refine ⟨rfl, _, rfl, _, rfl, b, 62, rfl, B3, by decide, by decide, fun r H5 r0 r1 B5 k5 => ?_⟩
      obtain ⟨c, hc⟩ := ix_s r0 (by rw [l62]; omega)
      exact ⟨_, _, _, rfl, rfl, line_of (by rw [l62]; decide), hc, hR _ _ ⟨_, rfl, Nat.le_refl _⟩ B5 k5⟩
    · rintro us H3 hl hu B3 k3 e3
      obtain ⟨ws, rfl, hw⟩ := TxG.all hu
      have hs := sum_le ws hw
      rw [List.length_map] at hl
      refine ⟨_, D, ws, rfl, rfl, .inl (SqL.of e3), by rw [str_len0]; omega, ?_⟩
      exact kQ _ H3 (by rw [join0_len]; omega) B3 (k1.trans (k2.trans k3))
  refine ⟨_, rfl, rfl, _, rfl, iteD (fun c2 => ?_) (fun c2 => ?_)⟩
  · refine ⟨⟨_, rfl⟩, _, rfl, b, 5, rfl, B1, by decide, by decide, fun m H2 m0 m1 B2 k2 => ⟨_, rfl, by omega, by omega, fun D hD => ?_⟩⟩
    refine lc_mut walk_range (bag_mut b) (G := TxG 1) (fun _ _ _ h _ => h) ?_ B2 hD ?_ ?_
    · omega
    · rintro i x H3 H4 R hi B3 k3 ⟨rfl, rfl⟩ hR
      refine ⟨rfl, _, rfl, _, _, rfl, rfl, line_of (by rw [l30, show (" aZ09" : Str).length = 5 by decide +kernel]; decide), _, rfl, b, 35, rfl, B3, by decide, by decide, fun r H5 r0 r1 B5 k5 => ?_⟩
      obtain ⟨c, hc⟩ := ix_s r0 (by rw [l35]; omega)
      exact ⟨_, _, _, rfl, rfl, line_of (by rw [l35]; decide), hc, hR _ _ ⟨_, rfl, Nat.le_refl _⟩ B5 k5⟩
    · rintro us H3 hl hu B3 k3 e3
      obtain ⟨ws, rfl, hw⟩ := TxG.all hu
      have hs := sum_le ws hw
      rw [List.length_map] at hl
      refine ⟨_, D, ws, rfl, rfl, .inl (SqL.of e3), by rw [str_len0]; omega, ?_⟩
      refine ⟨_, _, rfl, rfl, line_of (by rw [str_len_q, join0_len]; omega), _, _, rfl, rfl, line_of (by rw [len_append, str_len_q, join0_len]; omega), ?_⟩
      exact kQ _ H3 (by rw [len_append, len_append, str_len_q, join0_len]; omega) B3 (k1.trans (k2.trans k3))
  refine ⟨_, rfl, rfl, _, rfl, iteD (fun c3 => ?_) (fun c3 => ?_)⟩
  · refine ⟨(by show 7 ≤ sizeLine; decide), fun p hp => ⟨_, rfl, b, 7, rfl, B1.new hp, by decide, by decide, fun r H2 r0 r1 B2 k2 => ?_⟩⟩
    have hpb := B1.ne hp
    have hp2 := k2.one upd_same (Ne.symm hpb)
    obtain ⟨z, hz, hl⟩ : ∃ z : Str, atI [V.str "==", V.str "!=", V.str "<=", V.str ">=", V.str "&&", V.str "||", V.str "->"] r = some (V.str z) ∧ z.length = 2 := by
      rcases (show r = 0 ∨ r = 1 ∨ r = 2 ∨ r = 3 ∨ r = 4 ∨ r = 5 ∨ r = 6 by omega) with rfl | rfl | rfl | rfl | rfl | rfl | rfl
      all_goals exact ⟨_, rfl, by decide +kernel⟩
    refine ⟨p, _, _, _, rfl, rfl, SqL.of hp2, hz, ?_⟩
    exact kQ z H2 (by omega) B2 (k1.trans ((Keep.refl.new hp).trans k2))
  · refine ⟨_, rfl, _, rfl, b, 30, rfl, B1, by decide, by decide, fun r H2 r0 r1 B2 k2 => ?_⟩
    obtain ⟨c, hc⟩ := ix_s (z := ("!#$&'()*+,-./:;<=>?\x40[\\]^_`{|}~" : Str)) r0 (by rw [l30]; omega)
    refine ⟨_, _, _, rfl, rfl, line_of (by rw [l30]; decide), hc, ?_⟩
    refine ⟨(by show 5 ≤ sizeLine; decide), fun p hp => ⟨_, rfl, b, 5, rfl, B2.new hp, by decide, by decide, fun q H3 q0 q1 B3 k3 => ?_⟩⟩
    have hp3 := k3.one upd_same (Ne.symm (B2.ne hp))
    obtain ⟨m, hm, m0, m1⟩ : ∃ m : Int, atI [V.int 1, V.int 1, V.int 1, V.int 2, V.int 3] q = some (V.int m) ∧ 1 ≤ m ∧ m ≤ 3 := by
      rcases (show q = 0 ∨ q = 1 ∨ q = 2 ∨ q = 3 ∨ q = 4 by omega) with rfl | rfl | rfl | rfl | rfl
      all_goals exact ⟨_, rfl, by decide, by decide⟩
    refine ⟨p, _, _, _, rfl, rfl, SqL.of hp3, hm, ?_⟩
    refine ⟨_, m, rfl, rfl, by omega, by omega, by rw [len1]; decide, by rw [len1]; omega, fun y hy => ?_⟩
    exact kQ y H3 (by rw [← cl_len, hy, rep_len]; show m.toNat * 1 ≤ 8; omega) B3 (k1.trans (k2.trans ((Keep.refl.new hp).trans k3)))
theorem cal__law_token {P : Program} {w : World} {K : PySem.W.Frag} {mg : Str → Option Value} {base : Heap} (T : Top w K mg) : Callee P w K mg base CX0 2 "_law_token" sp__law_token [] := by
  obtain ⟨fd, F, S⟩ := ok__law_token (P := P) T
  exact ⟨fd, _, [], S base, T.g__law_token, F.kp, F.bindsN (fun _ _ _ _ _ _ us hl => match us, hl with | [_], _ => rfl), .nil⟩

/-- a row whose quotes close one another -/
def sp__law_row : Sp := fun vs H Q _ => ∃ (b : Addr), vs = [.ref b] ∧ BagAt H b ∧ ∀ (z : Str) (H' : Hp), z.length ≤ 400 → (cl z).count 34 % 2 = 0 → BagAt H' b → Keep [b] H H' → Q (.str z) H'
theorem close_even (z y : Str) (h : cl y = rep (Txt.count z ("\"" : Str) % 2) (cl ("\"" : Str))) : (cl (z ++ y)).count 34 % 2 = 0 ∧ (z ++ y).length ≤ z.length + 1 := by
  have e := count34 z
  have q : cl ("\"" : Str) = [34] := by rw [q34]
  have hl : y.length = ((Txt.count z ("\"" : Str)) % 2).toNat := by rw [← cl_len, h, rep_len, q]; simp
  refine ⟨?_, by rw [len_append, hl, e]; omega⟩
  rw [cl_append, List.count_append, h, rep_count, q, e]
  show ((cl z).count 34 + ((((cl z).count 34 : Nat) : Int) % 2).toNat * 1) % 2 = 0
  omega
theorem ok__law_row {P : Program} {w : World} {K : PySem.W.Frag} {mg : Str → Option Value} (T : Top w K mg) : ∃ fd : FuncData, FunD K "_law_row" "_law_row" (defArgs st__law_row) (defBody st__law_row) (defScope st__law_row) (dd__law_row.dvs K) (dd__law_row.kws K) (He.ga K "_law_row") fd ∧ ∀ base : Heap, FnOk P w K mg base CX0 3 (He.ga K "_law_row") fd ["_law_bag_here"] sp__law_row := by
  obtain ⟨fd, F⟩ := T.f__law_row
  refine ⟨fd, F, fun base => F.ok sc__law_row (fun vs H Q E h => by obtain ⟨_, rfl, _⟩ := h; rfl) (fun cdv A outer s H vs Q E hr h => ⟨_, PSs.nox
 ((pss_cons (ps_set (i := 1) sc__law_row.nd rfl (Or.inl rfl) (pe_op op_mul_str pe_str (pe_ix ix_list (pe_lst (pa_cons pe_int (pa_cons pe_int (pa_cons pe_int pa_nil)))) (pc (cal__law_take T) hr (by decide) L2.pass0 rfl (pa_cons (pv 0) (pa_cons pe_int pa_nil))) (fun _ _ => rfl))))
 (pss_cons (ps_set (i := 2) sc__law_row.nd rfl (Or.inl rfl) (pe_ix ix_list (pe_lst (pa_cons pe_int (pa_cons pe_int (pa_cons pe_int (pa_cons pe_int (pa_cons pe_int (pa_cons pe_int (pa_cons pe_int (pa_cons pe_int pa_nil))))))))) (pc (cal__law_take T) hr (by decide) L2.pass0 rfl (pa_cons (pv 0) (pa_cons pe_int pa_nil))) (fun _ _ => rfl)))
 (pss_cons (ps_for PassesOwn.never rfl (pi_range1 rfl T.n_range (pa_cons (pc (cal__law_take T) hr (by decide) L2.pass0 rfl (pa_cons (pv 0) (pa_cons pe_int pa_nil))) pa_nil)) (pg_name (i := 3) sc__law_row.nd rfl (Or.inl rfl))
 (pss_one (ps_set (i := 1) sc__law_row.nd rfl (Or.inl rfl) (pe_op op_add_str (pe_op op_add_str (pv 1) (pc (cal__law_token T) hr (by decide) L2.pass0 rfl (pa_cons (pv 0) pa_nil))) (pe_op op_mul_str pe_str (pe_ix ix_list (pe_lst (pa_cons pe_int (pa_cons pe_int (pa_cons pe_int (pa_cons pe_int pa_nil))))) (pc (cal__law_take T) hr (by decide) L2.pass0 rfl (pa_cons (pv 0) (pa_cons pe_int pa_nil))) (fun _ _ => rfl)))))))
 (pss_cons (ps_set (i := 1) sc__law_row.nd rfl (Or.inl rfl) (pe_slice sl_str (pe_op op_mul_str (pv 1) (pv 2)) po_none (po_some pe_int)))
 (pss_one (ps_ret (pe_ifExp (pt_cmpR op_lt (pe_callB call_len_str (by rfl) T.n_len (by decide +kernel) (pa_cons (pv 1) pa_nil)) pe_int (nomark _)) (pe_op op_add_str (pv 1) (pe_op op_mul_str pe_str (pe_op op_mod (pe_m1 PySem.F.slot_str_count PySem.F.type_str_count mt_count (pv 1) pe_str) pe_int))) (pe_op op_add_str (pe_slice sl_str (pv 1) po_none (po_some pe_int)) (pe_op op_mul_str pe_str (pe_op op_mod (pe_m1 PySem.F.slot_str_count PySem.F.type_str_count mt_count (pe_slice sl_str (pv 1) po_none (po_some pe_int)) pe_str) pe_int))))))))))), ?_⟩)⟩
  obtain ⟨b, rfl, B, kQ⟩ := h
  refine ⟨(by show 3 ≤ sizeLine; decide), fun p hp => ⟨_, rfl, b, 3, rfl, B.new hp, by decide, by decide, fun q H1 q0 q1 B1 k1 => ?_⟩⟩
  have hp1 := k1.one upd_same (Ne.symm (B.ne hp))
  obtain ⟨m, hm, m0, m1⟩ : ∃ m : Int, atI [V.int 0, V.int 0, V.int 2] q = some (V.int m) ∧ 0 ≤ m ∧ m ≤ 2 := by
    rcases (show q = 0 ∨ q = 1 ∨ q = 2 by omega) with rfl | rfl | rfl
    all_goals exact ⟨_, rfl, by decide, by decide⟩
  refine ⟨p, _, _, _, rfl, rfl, SqL.of hp1, hm, _, m, rfl, rfl, by omega, by omega, by rw [str_len_b]; decide, by rw [str_len_b]; omega, fun y hy => ?_⟩
  have ly : y.length ≤ 2 := by rw [← cl_len, hy, rep_len, cl_len, str_len_b]; omega
  clear hy
  refine ⟨(by show 8 ≤ sizeLine; decide), fun p2 hp2 => ⟨_, rfl, b, 8, rfl, B1.new hp2, by decide, by decide, fun q2 H2 q20 q21 B2 k2 => ?_⟩⟩
  have hp22 := k2.one upd_same (Ne.symm (B1.ne hp2))
  obtain ⟨t, ht, t0, t1⟩ : ∃ m : Int, atI [V.int 1, V.int 1, V.int 1, V.int 1, V.int 1, V.int 1, V.int 1, V.int 40] q2 = some (V.int m) ∧ 1 ≤ m ∧ m ≤ 40 := by
    rcases (show q2 = 0 ∨ q2 = 1 ∨ q2 = 2 ∨ q2 = 3 ∨ q2 = 4 ∨ q2 = 5 ∨ q2 = 6 ∨ q2 = 7 by omega) with rfl | rfl | rfl | rfl | rfl | rfl | rfl | rfl
    all_goals exact ⟨_, rfl, by decide, by decide⟩
  refine ⟨p2, _, _, _, rfl, rfl, SqL.of hp22, ht, ?_⟩
  have kk : Keep [b] H H2 := ((Keep.refl.new hp).trans k1).trans ((Keep.refl.new hp2).trans k2)
  refine ⟨_, rfl, b, 31, rfl, B2, by decide, by decide, fun n H3 n0 n1 B3 k3 => ⟨_, rfl, by omega, by omega, ?_⟩⟩
  refine for_range (fun i σ H' => BagAt H' b ∧ Keep [b] H H' ∧ ∃ (z : Str) (o : Option V), σ = [some (.ref b), some (.str z), some (.int t), o] ∧ z.length ≤ 2 + 11 * i) ⟨B3, kk.trans k3, y, none, rfl, by omega⟩ ?_ ?_
  · rintro i σ H4 hi ⟨B4, k4, z, o, rfl, hz⟩
    have hi' : i < 30 := by omega
    refine ⟨_, rfl, _, rfl, b, rfl, B4, fun w H5 hw B5 k5 => ⟨_, _, rfl, rfl, line_of (by omega), ?_⟩⟩
    refine ⟨(by show 4 ≤ sizeLine; decide), fun p hp => ⟨_, rfl, b, 4, rfl, B5.new hp, by decide, by decide, fun q H6 q0 q1 B6 k6 => ?_⟩⟩
    have hp6 := k6.one upd_same (Ne.symm (B5.ne hp))
    obtain ⟨m, hm, m0, m1⟩ : ∃ m : Int, atI [V.int 0, V.int 1, V.int 1, V.int 3] q = some (V.int m) ∧ 0 ≤ m ∧ m ≤ 3 := by
      rcases (show q = 0 ∨ q = 1 ∨ q = 2 ∨ q = 3 by omega) with rfl | rfl | rfl | rfl
      all_goals exact ⟨_, rfl, by decide, by decide⟩
    refine ⟨p, _, _, _, rfl, rfl, SqL.of hp6, hm, _, m, rfl, rfl, by omega, by omega, by rw [str_len_b]; decide, by rw [str_len_b]; omega, fun u hu => ?_⟩
    have lu : u.length ≤ 3 := by rw [← cl_len, hu, rep_len, cl_len, str_len_b]; omega
    have la := len_append z w
    refine ⟨_, _, rfl, rfl, line_of (by omega), ?_⟩
    exact ⟨B6, (k4.trans k5).trans ((Keep.refl.new hp).trans k6), _, _, rfl, by rw [len_append]; omega⟩
  · rintro σ H4 ⟨B4, k4, z, o, rfl, hz⟩
    have hz2 : z.length ≤ 400 := by omega
    refine ⟨_, rfl, _, rfl, z, t, rfl, rfl, by omega, by omega, by omega, ?_, fun u hu => ?_⟩
    · have := Nat.mul_le_mul hz2 (show t.toNat ≤ 40 by omega)
      omega
    have lu : u.length ≤ 16000 := by
      rw [← cl_len, hu, rep_len, cl_len]
      have := Nat.mul_le_mul (show t.toNat ≤ 40 by omega) hz2
      omega
    clear hu
    have cl400 : ∀ (k : Nat) (v : Str), (cutS v none (some (k : Int))).length ≤ k := fun k v => by
      rw [← cl_len, cut_to, List.length_take]; omega
    refine ⟨400, rfl, u, rfl, line_of (by omega), ?_⟩
    have h400 := cl400 400 u
    change (fun x H1 => _) (V.str (cutS u none (some ((400 : Nat) : Int)))) H4
    generalize cutS u none (some ((400 : Nat) : Int)) = v at h400
    refine ⟨_, rfl, v, rfl, line_of (by omega), _, _, rfl, rfl, _, rfl, ?_⟩
    refine iteD (fun c => ?_) (fun c => ?_)
    · refine ⟨_, rfl, _, rfl, ⟨_, rfl⟩, v, _, rfl, rfl, _, _, rfl, rfl, (by show (0 : Int) < _; decide), _, _, rfl, rfl, ?_, ?_, by rw [str_len_q]; decide, ?_, fun y hy => ?_⟩
      · omega
      · omega
      · rw [str_len_q]; omega
      obtain ⟨h1, h2⟩ := close_even v y hy
      refine ⟨_, _, rfl, rfl, line_of (by rw [← len_append]; omega), ?_⟩
      exact kQ _ H4 (by omega) h1 B4 k4
    · refine ⟨_, rfl, 399, rfl, v, rfl, line_of (by omega), ?_⟩
      have h399 := cl400 399 v
      refine ⟨_, rfl, 399, rfl, v, rfl, line_of (by omega), ⟨_, rfl⟩, _, _, rfl, rfl, _, _, rfl, rfl, (by show (0 : Int) < _; decide), _, _, rfl, rfl, ?_, ?_, by rw [str_len_q]; decide, ?_, fun y hy => ?_⟩
      · omega
      · omega
      · rw [str_len_q]; omega
      obtain ⟨h1, h2⟩ := close_even (cutS v none (some ((399 : Nat) : Int))) y hy
      refine ⟨_, _, rfl, rfl, line_of (by rw [← len_append]; exact Nat.le_trans h2 (by omega)), ?_⟩
      exact kQ _ H4 (Nat.le_trans h2 (by omega)) h1 B4 k4
theorem cal__law_row {P : Program} {w : World} {K : PySem.W.Frag} {mg : Str → Option Value} {base : Heap} (T : Top w K mg) : Callee P w K mg base CX0 3 "_law_row" sp__law_row [] := by
  obtain ⟨fd, F, S⟩ := ok__law_row (P := P) T
  exact ⟨fd, _, [], S base, T.g__law_row, F.kp, F.bindsN (fun _ _ _ _ _ _ us hl => match us, hl with | [_], _ => rfl), .nil⟩

/-! ### the law reads -/
def TkAt (K : PySem.W.Frag) (H : Hp) (v : V) (t : Tk) : Prop := ∃ a, v = .ref a ∧ SqT K H a [.str ⟨t.1.toArray⟩, .int (t.2 : Nat)]
theorem TkAt.stay {K : PySem.W.Frag} {H H' : Hp} {v : V} {t : Tk} (h : TkAt K H v t) (s : Stay H H') : TkAt K H' v t := by
  obtain ⟨a, e, q⟩ := h
  exact ⟨a, e, s.sqT q⟩
def TksL (K : PySem.W.Frag) (H : Hp) (p : Addr) (t : List Tk) : Prop := ∃ us, H p = some (.lst us) ∧ Paired (TkAt K H) us t
theorem TksL.same {K : PySem.W.Frag} {H H' : Hp} {p : Addr} {t : List Tk} (h : TksL K H p t) (s : Same H H') : TksL K H' p t := by
  obtain ⟨us, e, q⟩ := h
  exact ⟨us, s _ _ e, L2.Paired.mapP q fun _ _ g => g.stay s.stay⟩
theorem TksL.keep {K : PySem.W.Frag} {H H' : Hp} {p b : Addr} {t : List Tk} (h : TksL K H p t) (n : p ≠ b) (k : Keep [b] H H') (s : Stay H H') : TksL K H' p t := by
  obtain ⟨us, e, q⟩ := h
  exact ⟨us, k.one e n, L2.Paired.mapP q fun _ _ g => g.stay s⟩
def sp__law_read (K : PySem.W.Frag) : Sp := fun vs H Q _ => ∃ (z : Str) (t : List Tk), vs = [.str z] ∧ z.length ≤ 100000 ∧ lexOf 0 (cl z) = .ok t ∧ ∀ (p : Addr) (H' : Hp), H p = none → TksL K H' p t → Same H H' → Q (.ref p) H'
theorem ok__law_read {P : Program} {w : World} {K : PySem.W.Frag} {mg : Str → Option Value} (T : Top w K mg) : ∃ fd : FuncData, FunD K "_law_read" "_law_read" (defArgs st__law_read) (defBody st__law_read) (defScope st__law_read) (dd__law_read.dvs K) (dd__law_read.kws K) (He.ga K "_law_read") fd ∧ ∀ base : Heap, FnOk P w K mg base CX0 1 (He.ga K "_law_read") fd ["_law_line"] (sp__law_read K) := by
  obtain ⟨fd, F⟩ := T.f__law_read
  refine ⟨fd, F, fun base => F.ok sc__law_read (fun vs H Q E h => by obtain ⟨_, _, rfl, _⟩ := h; rfl) (fun cdv A outer s H vs Q E hr h => ⟨_, PSs.nox
 ((pss_cons (ps_set (i := 1) sc__law_read.nd rfl (Or.inl rfl) pe_str)
 (pss_cons (ps_set (i := 2) sc__law_read.nd rfl (Or.inl rfl) (pe_lst pa_nil))
 (pss_cons (ps_set (i := 3) sc__law_read.nd rfl (Or.inl rfl) pe_int)
 (pss_cons (ps_while PassesOwn.never (pt_cmpR op_lt (pv 3) (pe_callB call_len_str (by rfl) T.n_len (by decide +kernel) (pa_cons (pv 0) pa_nil)) (nomark _))
 (pss_cons (ps_set (i := 4) sc__law_read.nd rfl (Or.inl rfl) (pe_ix ix_str (pv 0) (pv 3) (fun _ _ => rfl)))
 (pss_cons (ps_set (i := 5) sc__law_read.nd rfl (Or.inl rfl) pe_int)
 (pss_cons (ps_if (pt_cmpR op_eq (pv 4) pe_str (nomark _))
 (pss_one (ps_set (i := 5) sc__law_read.nd rfl (Or.inl rfl) (pe_op op_add (pe_bmS PySem.F.plainAttrs_str PySem.F.slot_str_index PySem.F.type_str_index (mt_indexX rfl takes0) (pe_slice sl_str (pv 0) (po_some (pe_op op_add (pv 3) pe_int)) po_none) (pa_cons pe_str pa_nil)) pe_int)))
 (pss_one (ps_if (pt_cmpR op_in_sign (pv 4) (pv 1) (by rfl))
 (pss_one (ps_while PassesOwn.never (PW.pt (pw_and (pt_cmpR op_ne (pe_slice sl_str (pv 0) (po_some (pe_op op_add (pv 3) (pv 5))) (po_some (pe_op op_add (pe_op op_add (pv 3) (pv 5)) pe_int))) pe_str (nomark _)) (pw_and1 (pt_cmpR op_in_sign (pe_ix ix_str (pv 0) (pe_op op_add (pv 3) (pv 5)) (fun _ _ => rfl)) (pv 1) (by rfl)))))
 (pss_one (ps_set (i := 5) sc__law_read.nd rfl (Or.inl rfl) (pe_op op_add (pv 5) pe_int)))))
 (pss_one (ps_if (pt_cmpR op_in_seq (pe_slice sl_str (pv 0) (po_some (pv 3)) (po_some (pe_op op_add (pv 3) pe_int))) (pe_lst (pa_cons pe_str (pa_cons pe_str (pa_cons pe_str (pa_cons pe_str (pa_cons pe_str (pa_cons pe_str (pa_cons pe_str pa_nil)))))))) (by rfl))
 (pss_one (ps_set (i := 5) sc__law_read.nd rfl (Or.inl rfl) pe_int))
 pss_nil)))))
 (pss_cons (ps_if (pt_cmpR op_ne (pv 4) pe_str (nomark _))
 (pss_one (ps_expr (pe_bm PySem.F.plainAttrs_list PySem.F.slot_list_append PySem.F.type_list_append mt_append (pv 2) (pa_cons (pe_tup (pa_cons (pe_slice sl_str (pv 0) (po_some (pv 3)) (po_some (pe_op op_add (pv 3) (pv 5)))) (pa_cons (pv 3) pa_nil))) pa_nil))))
 pss_nil)
 (pss_one (ps_set (i := 3) sc__law_read.nd rfl (Or.inl rfl) (pe_op op_add (pv 3) (pv 5)))))))))
 (pss_one (ps_ret (pv 2)))))))), ?_⟩)⟩
  obtain ⟨z, t, rfl, hz, hlex, kQ⟩ := h
  have hcl := cl_len z
  refine ⟨Nat.zero_le _, fun p hp => ?_⟩
  generalize hZ : upd _ p _ = H1
  have e1 := at_of3 hZ
  have S1 := same_of3 hZ hp
  clear hZ
  refine ⟨fun m σ H' => ∃ (n : Nat) (acc : List Tk) (us : List V) (o o2 : Option V), σ = [some (.str z), some (.str ("abcdefghijklmnopqrstuvwxyzABCDEFGHIJKLMNOPQRSTUVWXYZ0123456789" : Str)), some (.ref p), some (.int n), o, o2] ∧ n ≤ z.length ∧ acc.length ≤ n ∧ m = z.length - n ∧ H' p = some (.lst us) ∧ Paired (TkAt K H') us acc ∧ Same H H' ∧ lexOf 0 (cl z) = cat acc (lexOf n ((cl z).drop n)), ⟨_, 0, [], [], none, none, rfl, by omega, Nat.le_refl _, rfl, e1, .nil, S1, by rw [cat_nil, List.drop_zero]⟩, ?_⟩
  rintro m σ H2 ⟨n, acc, us, o, o2, rfl, hn, ha, rfl, e2, P2, S2, hl⟩
  refine ⟨_, rfl, _, rfl, z, rfl, line_of (by omega), _, _, rfl, rfl, _, rfl, ?_⟩
  refine iteD (fun c1 => ?_) (fun c1 => ?_)
  · have c1' : n < (cl z).length := by omega
    obtain ⟨c, r, hd⟩ : ∃ c r, (cl z).drop n = c :: r := ⟨_, _, List.drop_eq_getElem_cons c1'⟩
    have hx : (cl z)[n]? = some c := by
      have q : ((cl z).drop n)[0]? = some c := by rw [hd]; rfl
      rwa [List.getElem?_drop, Nat.add_zero] at q
    have dn : ∀ k, (cl z).drop (n + k) = (c :: r).drop k := fun k => by rw [← hd, List.drop_drop]
    have hrl : n + (r.length + 1) = z.length := by
      have := congrArg List.length hd
      rw [List.length_drop, List.length_cons] at this
      omega
    rw [hd] at hl
    refine ⟨_, fun _ _ h => h, _, rfl, _, rfl, z, _, _, rfl, rfl, line_of (by omega), atI_nat hx, ?_⟩
    show tSeq (tAsg (tC (V.int 1)) (gName 5)) _ _ _ _
    refine step_asgC ?_
    dsimp only
    refine seq_cut (fun σ H' => Same H2 H' ∧ ∃ k : Nat, σ = [some (.str z), some (.str ("abcdefghijklmnopqrstuvwxyzABCDEFGHIJKLMNOPQRSTUVWXYZ0123456789" : Str)), some (.ref p), some (.int n), some (.str ⟨#[c]⟩), some (.int (k : Nat))] ∧ 1 ≤ k ∧ k ≤ r.length + 1 ∧ (c = 32 → k = 1) ∧ (c ≠ 32 → tokLen (c :: r) = some k)) ?_ ?_
    · rintro σ' H' ⟨S9, k, rfl, k0, k1, k32, kt⟩
      replace e2 := S9 _ _ e2
      replace P2 := L2.Paired.mapP P2 fun _ _ g => TkAt.stay g S9.stay
      replace S2 := S2.trans S9
      refine ⟨_, rfl, rfl, _, rfl, ?_⟩
      rw [V_b]
      refine iteDN (fun c2 => ?_) (fun c2 => ?_)
      · have hk := kt c2
        rw [lexOf_some c2 hk, cat_cat] at hl
        have la : us.length = acc.length := pLen P2
        refine ⟨_, rfl, .inl ⟨rfl, _, SqL.of e2⟩, _, rfl, _, rfl, n, rfl, _, rfl, _, rfl, _, _, rfl, rfl, (n : Int) + (k : Nat), rfl, z, rfl, line_of (by omega), _, rfl, (by show 2 ≤ sizeLine; decide), fun q hq => ?_⟩
        generalize hZ : upd _ q _ = H3
        have e3 := at_of3 hZ
        have S3 := same_of3 hZ hq
        clear hZ
        refine ⟨p, us, _, rfl, rfl, S3 _ _ e2, by rw [ss]; omega, _, rfl, _, rfl, _, _, rfl, rfl, z.length - (n + k), by omega, n + k, acc ++ [((c :: r).take k, n)], us ++ [.ref q], _, _, rfl, by omega, by rw [List.length_append]; show acc.length + 1 ≤ _; omega, rfl, upd_same, ?_, ?_, ?_⟩
        · have st : ∀ {o3 : HO}, Stay H' (upd H3 p o3) := fun {o3} => S3.stay.updL (S3 _ _ e2)
          have st3 : ∀ {o3 : HO}, Stay H3 (upd H3 p o3) := fun {o3} => Stay.refl.updL (S3 _ _ e2)
          refine pSnoc ⟨q, rfl, ?_⟩ (L2.Paired.mapP P2 fun _ _ g => g.stay st)
          have ec : cl (cutS z (some (n : Int)) (some ((n + k : Nat) : Int))) = (c :: r).take k := by rw [cut_nat, hd, Nat.add_sub_cancel_left]
          have e4 := SqT.of (K := K) (st3 (o3 := .lst (us ++ [.ref q])) _ _ e3 rfl)
          have ec2 := cut_eq ec
          change SqT K _ q [V.str (cutS z (some (n : Int)) (some ((n + k : Nat) : Int))), _] at e4
          rw [ec2] at e4
          exact e4
        · exact (S2.trans S3).upd hp
        · rw [dn]; exact hl
      · have hk := k32 c2
        subst hk c2
        rw [lexOf_bl] at hl
        refine ⟨_, rfl, _, rfl, _, _, rfl, rfl, z.length - (n + 1), by omega, n + 1, acc, us, _, _, rfl, by omega, by omega, rfl, e2, P2, S2, ?_⟩
        rw [show (cl z).drop (n + 1) = r from dn 1]
        exact hl
    · intro F hF
      have fin : ∀ (k : Nat) (H' : Hp), Same H2 H' → 1 ≤ k → k ≤ r.length + 1 → (c = 32 → k = 1) → (c ≠ 32 → tokLen (c :: r) = some k) → F [some (.str z), some (.str ("abcdefghijklmnopqrstuvwxyzABCDEFGHIJKLMNOPQRSTUVWXYZ0123456789" : Str)), some (.ref p), some (.int n), some (.str ⟨#[c]⟩), some (.int (k : Nat))] H' := fun k H' S9 a1 a2 a3 a4 => hF _ _ ⟨S9, k, rfl, a1, a2, a3, a4⟩
      clear hF
      refine ⟨_, rfl, rfl, _, rfl, ?_⟩
      rw [V_q]
      refine iteD (fun c34 => ?_) (fun c34 => ?_)
      · have er : cl (cutS z (some ((n + 1 : Nat) : Int)) none) = r := by rw [cut_from, dn 1]; rfl
        refine ⟨_, rfl, _, rfl, _, _, rfl, rfl, (n : Int) + 1, rfl, z, rfl, line_of (by omega), rfl, _, _, rfl, rfl, fun k hk => ⟨_, _, rfl, rfl, ?_⟩, fun hk d => ?_⟩
        · have hq : qAt r = some k := by rw [← er, ← index_q]; exact hk
          have ht : tokLen (c :: r) = some (k + 2) := by rw [tokLen_cons, if_pos c34, hq]; rfl
          have hb := tokLen_le ht
          exact fin (k + 2) _ (Same.refl _) (by omega) hb.2 (fun h => by omega) (fun _ => ht)
        · have hq : qAt r = none := by rw [← er, ← index_q]; exact hk
          have ht : tokLen (c :: r) = none := by rw [tokLen_cons, if_pos c34, hq]; rfl
          have : c ≠ 32 := by omega
          rw [lexOf_none this ht, hlex] at hl
          cases hl
      refine ⟨_, rfl, _, rfl, c, _, rfl, rfl, _, rfl, ?_⟩
      rw [← LF_mem]
      refine iteB (fun cl1 => ?_) (fun cl1 => ?_)
      · have c32 : c ≠ 32 := by intro e; subst e; revert cl1; decide +kernel
        have ht : tokLen (c :: r) = some (wE r + 1) := by rw [tokLen_cons, if_neg c34, if_pos cl1]
        have hb := tokLen_le ht
        refine ⟨fun m σ H' => H' = H2 ∧ ∃ k : Nat, σ = [some (.str z), some (.str ("abcdefghijklmnopqrstuvwxyzABCDEFGHIJKLMNOPQRSTUVWXYZ0123456789" : Str)), some (.ref p), some (.int n), some (.str ⟨#[c]⟩), some (.int (k : Nat))] ∧ 1 ≤ k ∧ n + k ≤ z.length ∧ m = z.length - (n + k) ∧ wE r + 1 = k + wE ((cl z).drop (n + k)), ⟨_, rfl, 1, rfl, by omega, by omega, rfl, by rw [dn 1]; show _ = 1 + wE r; omega⟩, ?_⟩
        rintro m σ H' ⟨rfl, k, rfl, k0, k1, rfl, hw⟩
        refine ⟨_, rfl, _, rfl, _, rfl, _, _, rfl, rfl, (n : Int) + (k : Nat), rfl, _, rfl, _, rfl, _, _, rfl, rfl, _, _, rfl, rfl, (n : Int) + (k : Nat) + 1, rfl, z, rfl, line_of (by omega), rfl, _, rfl, ?_⟩
        have ec : cl (cutS z (some ((n : Int) + (k : Nat))) (some ((n : Int) + (k : Nat) + 1))) = ((cl z).drop (n + k)).take 1 := (cut_nat z (n + k) (n + k + 1)).trans (by rw [Nat.add_sub_cancel_left])
        rw [V_nil, ec]
        refine iteDN (fun g => ?_) (fun g => ?_)
        · obtain ⟨d, u, hd2⟩ : ∃ d u, (cl z).drop (n + k) = d :: u := by
            cases q : (cl z).drop (n + k) with
            | nil => rw [q] at g; exact absurd rfl g
            | cons d u => exact ⟨d, u, rfl⟩
          have hx2 : (cl z)[n + k]? = some d := by
            have q : ((cl z).drop (n + k))[0]? = some d := by rw [hd2]; rfl
            rwa [List.getElem?_drop, Nat.add_zero] at q
          have hl2 := congrArg List.length hd2
          rw [List.length_drop, List.length_cons] at hl2
          rw [hd2] at hw
          refine ⟨_, rfl, _, rfl, _, rfl, _, _, rfl, rfl, z, _, _, rfl, rfl, line_of (by omega), atI_nat hx2, _, rfl, d, _, rfl, rfl, _, rfl, ?_⟩
          rw [← LF_mem]
          refine iteB (fun g2 => ?_) (fun g2 => ?_)
          · rw [wE_pos g2] at hw
            refine ⟨_, fun _ _ h => h, _, rfl, _, _, rfl, rfl, z.length - (n + (k + 1)), by omega, rfl, k + 1, rfl, by omega, by omega, rfl, ?_⟩
            have q3 : (cl z).drop (n + (k + 1)) = u := by rw [← Nat.add_assoc, ← List.drop_drop, hd2]; rfl
            rw [q3]; omega
          · rw [wE_neg (by rw [g2]; decide)] at hw
            have ek : k = wE r + 1 := by omega
            subst ek
            exact fin (wE r + 1) _ (Same.refl _) (by omega) hb.2 (fun h => absurd h c32) (fun _ => ht)
        · have g2 : (cl z).drop (n + k) = [] := by
            cases q : (cl z).drop (n + k) with
            | nil => rfl
            | cons d u => rw [q] at g; cases g
          rw [g2] at hw
          have ek : k = wE r + 1 := by rw [show wE [] = 0 from rfl] at hw; omega
          subst ek
          exact fin (wE r + 1) _ (Same.refl _) (by omega) hb.2 (fun h => absurd h c32) (fun _ => ht)
      · have nlf : ¬ isLF c = true := by rw [cl1]; decide
        refine ⟨_, rfl, _, rfl, n, rfl, _, rfl, _, _, rfl, rfl, (n : Int) + 2, rfl, z, rfl, line_of (by omega), (by show 7 ≤ sizeLine; decide), fun q hq => ?_⟩
        generalize hZ : upd _ q _ = H3
        have e3 := at_of3 hZ
        have S3 := same_of3 hZ hq
        clear hZ
        refine ⟨_, _, rfl, .inl (SqL.of e3), rfl, rfl, _, rfl, ?_⟩
        have ep := in_prs (cutS z (some (n : Int)) (some ((n : Int) + 2)))
        rw [cut2, hd] at ep
        show if inV _ _ = true then _ else _
        rw [show inV _ _ = _ from ep]
        refine iteD (fun p => ?_) (fun p => ?_)
        · have ht : tokLen (c :: r) = some 2 := by rw [tokLen_cons, if_neg c34, if_neg nlf, if_pos p]
          have hb := tokLen_le ht
          exact fin 2 _ S3 (by omega) hb.2 (fun h => by subst h; exact absurd rfl (prs_blank p)) (fun _ => ht)
        · have ht : tokLen (c :: r) = some 1 := by rw [tokLen_cons, if_neg c34, if_neg nlf, if_neg p]
          exact fin 1 _ S3 (by omega) (by omega) (fun _ => rfl) (fun _ => ht)
  · have e0 : n = z.length := by omega
    subst e0
    rw [List.drop_eq_nil_of_le (by omega), lexOf_nil, hlex] at hl
    have et : t = acc := by
      have q : Except.ok t = Except.ok (acc ++ []) := hl
      rw [List.append_nil] at q
      exact Except.ok.inj q
    subst et
    exact ⟨_, rfl, kQ p H2 hp ⟨us, e2, P2⟩ S2⟩
theorem cal__law_read {P : Program} {w : World} {K : PySem.W.Frag} {mg : Str → Option Value} {base : Heap} (T : Top w K mg) : Callee P w K mg base CX0 1 "_law_read" (sp__law_read K) [] := by
  obtain ⟨fd, F, S⟩ := ok__law_read (P := P) T
  exact ⟨fd, _, [], S base, T.g__law_read, F.kp, F.bindsN (fun _ _ _ _ _ _ us hl => match us, hl with | [_], _ => rfl), .nil⟩

/-! ### as due -/
/-- what reading tells: each token some signs long, all within a row -/
def Fine (t : List Tk) : Prop := t.length ≤ 100000 ∧ ∀ x ∈ t, x.1 ≠ [] ∧ x.2 + x.1.length ≤ 100000
theorem Fine.of {l : List Nat} {t : List Tk} (h : lexOf 0 l = .ok t) (hl : l.length ≤ 100000) : Fine t := by
  obtain ⟨a, b⟩ := lex_len h
  exact ⟨by omega, fun x hx => ⟨lex_pos h x hx, by have := b x hx; omega⟩⟩
def sp__law_as_due (K : PySem.W.Frag) : Sp := fun vs H Q _ => ∃ (p q : Addr) (us : List V) (t : List Tk) (leaf : Str) (height : Int), vs = [.ref p, .ref q, .str leaf, .int height] ∧ H p = some (.lst us) ∧ Paired (PcAt K H) us (t.map (pcOf leaf height)) ∧ TksL K H q t ∧ Fine t ∧ ∀ H', Same H H' → Q (.bl true) H'
theorem met_Piece_stands_0 {P : Program} {w : World} {K : PySem.W.Frag} {mg : Str → Option Value} {base : Heap} (T : Top w K mg) : MethC P w K mg base CX0 1 "Piece" "stands" (sp_Piece_stands K) [] := by
  obtain ⟨fd, F, S⟩ := ok_Piece_stands (P := P) T
  have hB : Binds K fd ["self"] [] := F.bindsN (fun _ _ _ _ _ _ us hl => match us, hl with | [_], _ => rfl)
  exact ⟨_, fd, _, [], T.cl_Piece, T.m_Piece_stands, S base, hB, .nil⟩
theorem ok__law_as_due {P : Program} {w : World} {K : PySem.W.Frag} {mg : Str → Option Value} (T : Top w K mg) : ∃ fd : FuncData, FunD K "_law_as_due" "_law_as_due" (defArgs st__law_as_due) (defBody st__law_as_due) (defScope st__law_as_due) (dd__law_as_due.dvs K) (dd__law_as_due.kws K) (He.ga K "_law_as_due") fd ∧ ∀ base : Heap, FnOk P w K mg base CX0 2 (He.ga K "_law_as_due") fd ["_law_found", "_law_due", "_law_leaf", "_law_height"] (sp__law_as_due K) := by
  obtain ⟨fd, F⟩ := T.f__law_as_due
  refine ⟨fd, F, fun base => F.ok sc__law_as_due (fun vs H Q E h => by obtain ⟨_, _, _, _, _, _, rfl, _⟩ := h; rfl) (fun cdv A outer s H vs Q E hr h => ⟨_, PSs.nox
 ((pss_cons (ps_if (PW.pt (pw_or (pt_not (pt_val (pe_callB call_isi (by rfl) T.n_isinstance (by decide +kernel) (pa_cons (pv 0) (pa_cons (pe_bltn (v := .ty "list") (by rfl) T.n_list (by decide +kernel) rfl) pa_nil))))) (pw_or1 (pt_cmpR op_ne (pe_callB call_len_seq (by rfl) T.n_len (by decide +kernel) (pa_cons (pv 0) pa_nil)) (pe_callB call_len_seq (by rfl) T.n_len (by decide +kernel) (pa_cons (pv 1) pa_nil)) (nomark _)))))
 (pss_one (ps_ret pe_bl))
 pss_nil)
 (pss_cons (ps_for PassesOwn.never rfl (pi_zip (by rfl) T.n_zip (pa_cons (pv 0) (pa_cons (pv 1) pa_nil))) (pg_tup rfl (pgs_cons (pg_name (i := 4) sc__law_as_due.nd rfl (Or.inl rfl)) (pgs_cons (pg_tup rfl (pgs_cons (pg_name (i := 5) sc__law_as_due.nd rfl (Or.inl rfl)) (pgs_cons (pg_name (i := 6) sc__law_as_due.nd rfl (Or.inr rfl)) pgs_nil))) pgs_nil)))
 (pss_cons (ps_set (i := 7) sc__law_as_due.nd rfl (Or.inl rfl) (pe_tupleOf (by rfl) T.n_tuple (pe_lc (own := [("_law_k", 8)]) (g := gName 8) (tt := tYes) rfl sc__law_as_due.nd (pi_range1 rfl T.n_range (pa_cons (pe_callB call_len_str (by rfl) T.n_len (by decide +kernel) (pa_cons (pv 5) pa_nil)) pa_nil)) (blkOk_by (N := ["_law_found", "_law_due", "_law_leaf", "_law_height", "_law_piece", "_law_text", "_law_at", "_law_signs", "_law_k"]) (sc := defScope st__law_as_due) (by decide +kernel)) (fun _ _ _ _ _ => pg_name (i := 8) sc__law_as_due.nd rfl (Or.inl rfl)) (fun _ _ _ _ _ => pts_nil) (fun _ _ _ _ _ => (pe_tup (pa_cons (pv 2) (pa_cons (pv 3) (pa_cons (pe_op op_add (pv 6) (pv 8)) (pa_cons (pe_tup pa_nil) pa_nil)))))))))
 (pss_cons (ps_if (PW.pt (pw_or (pt_not (pt_val (pe_callB call_isi (by rfl) T.n_isinstance (by decide +kernel) (pa_cons (pv 4) (pa_cons (pe_gr T.g_Piece) pa_nil))))) (pw_or (pt_cmpR op_ne (pe_fld (pv 4) rfl) (pv 5) (nomark _)) (pw_or (pt_cmpR (op_neW hr.units) (pe_fld (pv 4) rfl) (pe_tup pa_nil) (nomark _)) (pw_or1 (pt_cmpR (op_neW hr.units) (pe_fld (pv 4) rfl) (pv 7) (nomark _)))))))
 (pss_one (ps_ret pe_bl))
 pss_nil)
 (pss_one (ps_if (PW.pt (pw_or (pt_not (pt_val (pe_callB call_isi (by rfl) T.n_isinstance (by decide +kernel) (pa_cons (pe_fld (pv 4) rfl) (pa_cons (pe_bltn (v := .ty "tuple") (by rfl) T.n_tuple (by decide +kernel) rfl) pa_nil))))) (pw_or1 (pt_cmpR (op_neW hr.units) (pmt0 (met_Piece_stands_0 T) hr (by decide) L2.pass0 (pv 4)) (pe_tup (pa_cons (pv 2) (pa_cons (pv 3) (pa_cons (pv 6) pa_nil)))) (nomark _)))))
 (pss_one (ps_ret pe_bl))
 pss_nil)))))
 (pss_one (ps_ret pe_bl))))), ?_⟩)⟩
  obtain ⟨p, q, us, t, leaf, height, rfl, hp, Pu, ⟨ds, hq, Du⟩, ⟨ft, fx⟩, kQ⟩ := h
  have lu : us.length = t.length := by rw [pLen Pu, List.length_map]
  have ld : ds.length = t.length := pLen Du
  refine ⟨_, rfl, _, .ty "list", _, _, _, rfl, .ty "list", .base (.lst hp), kit_ty (r := true) (by decide +kernel), ?_⟩
  refine ⟨_, rfl, _, rfl, p, _, rfl, .inl (SqL.of hp), _, rfl, q, _, rfl, .inl (SqL.of hq), rfl, _, rfl, ?_⟩
  refine iteDN (fun g => absurd (by rw [lu, ld]) g) (fun _ => ?_)
  refine ⟨_, rfl, _, rfl, p, q, _, _, rfl, SqL.of hp, SqL.of hq, ?_⟩
  refine for_it (walk_zip (n := t.length) (by omega)) (fun i σ H' => Same H H' ∧ ∃ (o1 o2 o3 o4 : Option V), σ = [some (.ref p), some (.ref q), some (.str leaf), some (.int height), o1, o2, o3, o4, none]) ⟨Same.refl H, none, none, none, none, rfl⟩ (fun i σ H' _ h => ⟨h.1.seq (SqL.of hp), h.1.seq (SqL.of hq)⟩) ?_ ?_
  · rintro i x σ H1 H2 hi ⟨S1, o1, o2, o3, o4, rfl⟩ ⟨T1, v, d, rfl, hT, hH2, hv, hd⟩
    subst hH2
    generalize hZ : upd _ T1 _ = H2
    have e2 := at_of3 hZ
    have S2 := same_of3 hZ hT
    clear hZ
    obtain ⟨pc, hpc, pa⟩ := pAt Pu hv
    obtain ⟨tk, htk, a, rfl, ta⟩ := pAt Du hd
    rw [List.getElem?_map, htk] at hpc
    cases hpc
    have S := S1.trans S2
    obtain ⟨f1, f2⟩ := fx tk (List.mem_of_getElem? htk)
    refine ⟨T1, _, rfl, SqT.of e2, rfl, _, _, rfl, _, _, rfl, ⟨a, _, rfl, S.stay.sqT ta, rfl, _, _, rfl, _, _, rfl, rfl, rfl, ?_⟩⟩
    have lz : Str.length ⟨tk.1.toArray⟩ = tk.1.length := List.size_toArray
    refine ⟨_, rfl, _, rfl, line_of (by omega), _, rfl, by omega, by omega, fun D hD => ?_⟩
    rw [lz, Int.toNat_natCast]
    refine lc_it walk_range (fun i H' => Same H2 H' ∧ ∃ vs, H' D = some (.lst vs) ∧ vs.length = i ∧ Paired (SgAt K H') vs ((List.range i).map fun j => ⟨leaf, height, (tk.2 + j : Nat), []⟩)) ⟨(Same.refl H2).new hD, [], upd_same, rfl, .nil⟩ (fun _ _ _ _ => True.intro) ?_ ?_
    · rintro i x H3 H4 hi ⟨S3, vs, e3, hv, P3⟩ ⟨rfl, rfl⟩
      refine ⟨rfl, _, rfl, _, rfl, _, rfl, _, rfl, _, _, rfl, rfl, Nat.zero_le _, fun q1 hq1 => ?_⟩
      generalize hZ : upd _ q1 _ = H5
      have e5 := at_of3 hZ
      have S5 := same_of3 hZ hq1
      clear hZ
      refine ⟨(by show 4 ≤ sizeLine; decide), fun q2 hq2 => ?_⟩
      generalize hZ : upd _ q2 _ = H6
      have e6 := at_of3 hZ
      have S6 := same_of3 hZ hq2
      clear hZ
      have hDD := S6 _ _ (S5 _ _ e3)
      refine ⟨vs, hDD, by rw [hv, ss]; omega, ((S3.trans S5).trans S6).upd hD, vs ++ [.ref q2], upd_same, by simp [hv], ?_⟩
      rw [List.range_succ, List.map_append]
      refine pSnoc ?_ (L2.Paired.mapP P3 fun _ _ g => g.stay ((S5.trans S6).stay.updL hDD))
      have e5' := S6 _ _ e5
      have e6' : (upd H6 D (.lst (vs ++ [.ref q2]))) q2 = some (.tup [.str leaf, .int height, .int ((tk.2 : Nat) + (i : Nat) : Int), .ref q1]) := by
        rw [upd_ne (ne_of e6 hDD (by intro z; cases z)), e6]
        congr 6
        omega
      exact ⟨q2, q1, rfl, SqT.of e6', SqT.of (by rw [upd_ne (ne_of e5' hDD (by intro z; cases z))]; exact e5')⟩
    · rintro H3 ⟨S3, vs, e3, hv, P3⟩
      refine .inl ⟨D, vs, rfl, SqL.of e3, fun sa hsa => ?_⟩
      generalize hZ : upd _ sa _ = H4
      have e4 := at_of3 hZ
      have S4 := same_of3 hZ hsa
      clear hZ
      have S4' := S.trans (S3.trans S4)
      have pa4 := pa.stay S4'.stay
      obtain ⟨pv, dx, psa, ppa, rfl, h1, h2, h3⟩ := pa4
      have sg : SgsAt K H4 sa (pcOf leaf height tk).signs := ⟨vs, SqT.of e4, L2.Paired.mapP P3 fun _ _ g => g.stay S4.stay⟩
      have c := T.ci_Piece
      refine ⟨_, rfl, _, .ref _, _, _, _, rfl, .own _, c.at h1, T.kc_Piece_Piece, ?_⟩
      refine ⟨_, rfl, _, rfl, pv, _, dx, _, _, rfl, h1, c.cls, T.na_Piece_text, rfl, _, rfl, rfl, _, rfl, ?_⟩
      refine iteDN (fun g => absurd rfl g) (fun _ => ?_)
      refine ⟨_, rfl, pv, _, dx, _, _, rfl, h1, c.cls, T.na_Piece_paint, rfl, Nat.zero_le _, fun q1 hq1 => ?_⟩
      generalize hZ : upd _ q1 _ = H5
      have e5 := at_of3 hZ
      have S5 := same_of3 hZ hq1
      clear hZ
      refine ⟨1, true, by decide, top_tup (S5.stay.sqT h3) (SqT.of e5) seqE_nil, _, rfl, ?_⟩
      refine ⟨_, rfl, pv, _, dx, _, _, rfl, S5 _ _ h1, c.cls, T.na_Piece_signs, rfl, _, rfl, 2, true, by decide, top_sgs_self (h2.stay S5.stay) (sg.stay S5.stay), _, rfl, ?_⟩
      obtain ⟨svs, sv1, sv2⟩ := h2
      refine ⟨_, rfl, pv, _, dx, _, _, rfl, S5 _ _ h1, c.cls, T.na_Piece_signs, rfl, _, .ty "tuple", _, _, _, rfl, .ty "tuple", sqT_ty (S5.stay.sqT sv1), kit_ty (r := true) (by decide +kernel), ?_⟩
      obtain ⟨d0, l0, hl0⟩ : ∃ d0 l0, tk.1 = d0 :: l0 := by
        cases q : tk.1 with
        | nil => exact absurd q f1
        | cons d0 l0 => exact ⟨d0, l0, rfl⟩
      have hsg : (pcOf leaf height tk).signs = ⟨leaf, height, (tk.2 + 0 : Nat), []⟩ :: ((List.range l0.length).map Nat.succ).map fun k => ⟨leaf, height, (tk.2 + k : Nat), []⟩ := by
        show (List.range tk.1.length).map _ = _
        rw [hl0, List.length_cons, List.range_succ_eq_map]; rfl
      have pa5 := (pa.stay S4'.stay).stay S5.stay
      refine ⟨_, rfl, _, rfl, pv, dx, _, rfl, S5 _ _ h1, rfl, _, _, _, _, rfl, pa5, hsg, fun q2 hq2 => ?_⟩
      generalize hZ : upd _ q2 _ = H6
      have e6 := at_of3 hZ
      have S6 := same_of3 hZ hq2
      clear hZ
      refine ⟨_, rfl, _, rfl, _, rfl, (by show 3 ≤ sizeLine; decide), fun q3 hq3 => ?_⟩
      generalize hZ : upd _ q3 _ = H7
      have e7 := at_of3 hZ
      have S7 := same_of3 hZ hq3
      clear hZ
      refine ⟨1, true, by decide, top_tup (SqT.of (S7 _ _ e6)) (SqT.of e7) (seqE_self _ rfl), _, rfl, ?_⟩
      exact ⟨((S4'.trans S5).trans S6).trans S7, _, _, _, _, rfl⟩
  · rintro σ H1 ⟨S1, o1, o2, o3, o4, rfl⟩
    exact kQ H1 S1
theorem cal__law_as_due {P : Program} {w : World} {K : PySem.W.Frag} {mg : Str → Option Value} {base : Heap} (T : Top w K mg) : Callee P w K mg base CX0 2 "_law_as_due" (sp__law_as_due K) [] := by
  obtain ⟨fd, F, S⟩ := ok__law_as_due (P := P) T
  exact ⟨fd, _, [], S base, T.g__law_as_due, F.kp, F.bindsN (fun _ _ _ _ _ _ us hl => match us, hl with | [_, _, _, _], _ => rfl), .nil⟩

/-! ### the law -/
def sp_law (K : PySem.W.Frag) : Sp := fun vs H Q _ => ∃ (a : Addr) (ns : List Int), vs = [.ref a] ∧ SqL K H a (ns.map V.int) ∧ ns.length ≤ 63 ∧ ∀ H', Q (.bl true) H'
theorem law_pre {K : PySem.W.Frag} {H : Hp} {a : Addr} {ns : List Int} (hl : ns.length ≤ 63) (hO : Only H) (hS : SqL K H a (ns.map V.int)) : sp_law K [.ref a] H (fun v _ => v = .bl true) fun _ _ _ => False :=
  ⟨a, ns, rfl, hS, hl, fun _ => rfl⟩
theorem cal_pieces_of_1_number_page {P : Program} {w : World} {K : PySem.W.Frag} {mg : Str → Option Value} {base : Heap} (T : Top w K mg) : CalleeK P w K mg base CX0 3 "pieces_of" (sp_pieces_of K) 1 ["number", "page"] (fun vs zs => vs ++ (pick 1 zs ++ (pick 0 zs ++ []))) := by
  obtain ⟨fd, F, S⟩ := ok_pieces_of (P := P) T
  obtain ⟨mv, hB⟩ := F.kbinds0 (ps := ["row", "page", "number"]) 1 ["number", "page"] [] (fun us mv ws => us ++ (pick 1 ws ++ (pick 0 ws ++ []))) (fun z => nomatch z) (by intro q hq; revert q hq; simp [dd_pieces_of, He.DefD.kws, He.Dv.v]) (fun r1 rm rw => Vals.append r1 (Vals.append (vpick 1 rw) (Vals.append (vpick 0 rw) (.nil)))) (fun _ _ _ _ _ _ us mv ws h1 h2 h3 => match us, mv, ws, h1, h2, h3 with | [_], [], [_, _], _, _, _ => rfl)
  exact ⟨fd, _, _, S base, T.g_pieces_of, F.kp, hB⟩
theorem cal_pieces_of_1_page_number {P : Program} {w : World} {K : PySem.W.Frag} {mg : Str → Option Value} {base : Heap} (T : Top w K mg) : CalleeK P w K mg base CX0 3 "pieces_of" (sp_pieces_of K) 1 ["page", "number"] (fun vs zs => vs ++ (pick 0 zs ++ (pick 1 zs ++ []))) := by
  obtain ⟨fd, F, S⟩ := ok_pieces_of (P := P) T
  obtain ⟨mv, hB⟩ := F.kbinds0 (ps := ["row", "page", "number"]) 1 ["page", "number"] [] (fun us mv ws => us ++ (pick 0 ws ++ (pick 1 ws ++ []))) (fun z => nomatch z) (by intro q hq; revert q hq; simp [dd_pieces_of, He.DefD.kws, He.Dv.v]) (fun r1 rm rw => Vals.append r1 (Vals.append (vpick 0 rw) (Vals.append (vpick 1 rw) (.nil)))) (fun _ _ _ _ _ _ us mv ws h1 h2 h3 => match us, mv, ws, h1, h2, h3 with | [_], [], [_, _], _, _, _ => rfl)
  exact ⟨fd, _, _, S base, T.g_pieces_of, F.kp, hB⟩
theorem cal_pieces_of_1 {P : Program} {w : World} {K : PySem.W.Frag} {mg : Str → Option Value} {base : Heap} (T : Top w K mg) : Callee P w K mg base CX0 3 "pieces_of" (sp_pieces_of K) [V.str "", V.int 0] := by
  obtain ⟨fd, F, S⟩ := ok_pieces_of (P := P) T
  obtain ⟨ds, hV, hB⟩ := F.binds0 (ps := ["row", "page", "number"]) 1 (fun z => nomatch z) rfl (fun _ _ _ _ _ _ us ks h1 h2 => match us, ks, h1, h2 with | [_], [_, _], _, _ => ⟨_, _, _, _, _, _, rfl, rfl, ⟨_, _, _, _, _, _, rfl, rfl, rfl⟩⟩)
  exact ⟨fd, _, ds, S base, T.g_pieces_of, F.kp, hB, hV⟩
theorem cal_pieces_of_0_row_page {P : Program} {w : World} {K : PySem.W.Frag} {mg : Str → Option Value} {base : Heap} (T : Top w K mg) : CalleeK P w K mg base CX0 3 "pieces_of" (sp_pieces_of K) 0 ["row", "page"] (fun vs zs => vs ++ (pick 0 zs ++ (pick 1 zs ++ ([V.int 0] ++ [])))) := by
  obtain ⟨fd, F, S⟩ := ok_pieces_of (P := P) T
  obtain ⟨mv, hB⟩ := F.kbinds0 (ps := ["row", "page", "number"]) 0 ["row", "page"] [("number", V.int 0)] (fun us mv ws => us ++ (pick 0 ws ++ (pick 1 ws ++ (pick 0 mv ++ [])))) (fun z => nomatch z) (by intro q hq; revert q hq; simp [dd_pieces_of, He.DefD.kws, He.Dv.v]) (fun r1 rm rw => Vals.append r1 (Vals.append (vpick 0 rw) (Vals.append (vpick 1 rw) (Vals.append (vpick 0 rm) (.nil))))) (fun _ _ _ _ _ _ us mv ws h1 h2 h3 => match us, mv, ws, h1, h2, h3 with | [], [_], [_, _], _, _, _ => ⟨_, _, _, _, _, _, rfl, rfl, rfl⟩)
  exact ⟨fd, _, _, S base, T.g_pieces_of, F.kp, hB⟩
theorem ok_law {P : Program} {w : World} {K : PySem.W.Frag} {mg : Str → Option Value} (T : Top w K mg) : ∃ fd : FuncData, FunD K "law" "law" (defArgs st_law) (defBody st_law) (defScope st_law) (dd_law.dvs K) (dd_law.kws K) (He.ga K "law") fd ∧ ∀ base : Heap, FnOk P w K mg base CX0 4 (He.ga K "law") fd ["_law_script"] (sp_law K) := by
  obtain ⟨fd, F⟩ := T.f_law
  refine ⟨fd, F, fun base => F.ok sc_law (fun vs H Q E h => by obtain ⟨_, _, rfl, _⟩ := h; rfl) (fun cdv A outer s H vs Q E hr h => ⟨_, PSs.nox
 ((pss_cons (ps_for PassesOwn.never rfl (pi_range1 rfl T.n_range (pa_cons (pe_callB (call_max2 rfl) (by rfl) T.n_max (by decide +kernel) (pa_cons pe_int (pa_cons (pe_callB (call_min2 rfl) (by rfl) T.n_min (by decide +kernel) (pa_cons pe_int (pa_cons (pe_callB call_len_seq (by rfl) T.n_len (by decide +kernel) (pa_cons (pv 0) pa_nil)) pa_nil))) pa_nil))) pa_nil)) (pg_name (i := 1) sc_law.nd rfl (Or.inl rfl))
 (pss_cons (ps_set (i := 2) sc_law.nd rfl (Or.inl rfl) (pc (cal__law_bag T) hr (by decide) L2.pass0 rfl (pa_cons (pv 0) (pa_cons (pv 1) pa_nil))))
 (pss_cons (ps_par (i := 3) (j := 4) rfl sc_law.nd rfl rfl (by decide) rfl rfl (pa_cons (pe_ix ix_list (pe_lst (pa_cons pe_str (pa_cons pe_str (pa_cons pe_str (pa_cons pe_str pa_nil))))) (pc (cal__law_take T) hr (by decide) L2.pass0 rfl (pa_cons (pv 2) (pa_cons pe_int pa_nil))) (fun _ _ => rfl)) (pa_cons (pc (cal__law_take T) hr (by decide) L2.pass0 rfl (pa_cons (pv 2) (pa_cons pe_int pa_nil))) pa_nil)) (by rfl))
 (pss_cons (ps_set (i := 5) sc_law.nd rfl (Or.inl rfl) (pc (cal__law_row T) hr (by decide) L2.pass0 rfl (pa_cons (pv 2) pa_nil)))
 (pss_cons (ps_set (i := 6) sc_law.nd rfl (Or.inl rfl) (pc (cal__law_read T) hr (by decide) L2.pass0 rfl (pa_cons (pv 5) pa_nil)))
 (pss_cons (ps_set (i := 7) sc_law.nd rfl (Or.inl rfl) (pck (cal_pieces_of_1_number_page T) hr (by decide) L2.pass0 rfl (pa_cons (pv 5) pa_nil) (pk_cons (pv 4) (pk_cons (pv 3) pk_nil))))
 (pss_cons (ps_if (pt_not (pt_val (pc (cal__law_as_due T) hr (by decide) L2.pass0 rfl (pa_cons (pv 7) (pa_cons (pv 6) (pa_cons (pv 3) (pa_cons (pv 4) pa_nil)))))))
 (pss_one (ps_ret pe_bl))
 pss_nil)
 (pss_cons (ps_expr (pe_bm PySem.F.plainAttrs_list PySem.F.slot_list_append PySem.F.type_list_append mt_append (pv 7) (pa_cons pe_int pa_nil)))
 (pss_cons (ps_if (pt_not (pt_val (pc (cal__law_as_due T) hr (by decide) L2.pass0 rfl (pa_cons (pck (cal_pieces_of_1_page_number T) hr (by decide) L2.pass0 rfl (pa_cons (pv 5) pa_nil) (pk_cons (pv 3) (pk_cons (pv 4) pk_nil))) (pa_cons (pv 6) (pa_cons (pv 3) (pa_cons (pv 4) pa_nil)))))))
 (pss_one (ps_ret pe_bl))
 pss_nil)
 (pss_cons (ps_if (pt_not (pt_val (pc (cal__law_as_due T) hr (by decide) L2.pass0 rfl (pa_cons (pc (cal_pieces_of_1 T) hr (by decide) L2.pass0 rfl (pa_cons (pv 5) pa_nil)) (pa_cons (pv 6) (pa_cons pe_str (pa_cons pe_int pa_nil)))))))
 (pss_one (ps_ret pe_bl))
 pss_nil)
 (pss_one (ps_if (pt_not (pt_val (pc (cal__law_as_due T) hr (by decide) L2.pass0 rfl (pa_cons (pck0 (cal_pieces_of_0_row_page T) hr (by decide) L2.pass0 rfl  (pk_cons (pv 5) (pk_cons (pv 3) pk_nil))) (pa_cons (pv 6) (pa_cons (pv 3) (pa_cons pe_int pa_nil)))))))
 (pss_one (ps_ret pe_bl))
 pss_nil))))))))))))
 (pss_one (ps_ret (pe_and (pe_cmpR (op_eqW hr.units) (pc (cal_pieces_of_1 T) hr (by decide) L2.pass0 rfl (pa_cons pe_str pa_nil)) (pe_lst pa_nil) (nomark _)) (pe_one (pe_cmpR (op_eqW hr.units) (pc (cal_pieces_of_1 T) hr (by decide) L2.pass0 rfl (pa_cons pe_str pa_nil)) (pe_lst pa_nil) (nomark _)))))))), ?_⟩)⟩
  obtain ⟨a, ns, rfl, hS, hl, kQ⟩ := h
  refine ⟨_, rfl, a, _, rfl, .inl hS, _, _, rfl, _, _, rfl, ?_⟩
  rw [List.length_map]
  refine ⟨_, rfl, by split <;> split <;> omega, by split <;> split <;> omega, ?_⟩
  refine for_range (fun i σ H' => Same H H' ∧ ∃ (o1 o2 o3 o4 o5 o6 o7 : Option V), σ = [some (.ref a), o1, o2, o3, o4, o5, o6, o7]) ⟨Same.refl H, none, none, none, none, none, none, none, rfl⟩ ?_ ?_
  · rintro i σ H1 hi ⟨S1, o1, o2, o3, o4, o5, o6, o7, rfl⟩
    refine ⟨_, rfl, _, rfl, a, _, rfl, ⟨ns, S1.seq hS, hl⟩, by omega, fun b n f hb B => ?_⟩
    have hb0 := frees S1 hb
    generalize hZ : upd _ b _ = H2
    have e2 := at_of3 hZ
    have S2 := same_of3 hZ hb
    clear hZ
    have B2 : BagAt H2 b := ⟨n, f, e2, B⟩
    have S02 := S1.trans S2
    refine ⟨(by show 4 ≤ sizeLine; decide), fun p hp => ⟨_, rfl, b, 4, rfl, B2.new hp, by decide, by decide, fun q H3 q0 q1 B3 k3 => ?_⟩⟩
    have hp3 := k3.one upd_same (Ne.symm (B2.ne hp))
    have S03 : Same H H3 := (S02.new hp).keep k3 hb0
    obtain ⟨leaf, hm⟩ : ∃ m : Str, atI [V.str "", V.str "top", V.str "a9", V.str "page two"] q = some (V.str m) := by
      rcases (show q = 0 ∨ q = 1 ∨ q = 2 ∨ q = 3 by omega) with rfl | rfl | rfl | rfl
      all_goals exact ⟨_, rfl⟩
    refine ⟨p, _, _, _, rfl, rfl, SqL.of hp3, hm, _, rfl, b, 2001, rfl, B3, by decide, by decide, fun height H4 q0 q1 B4 k4 => ?_⟩
    have S04 := S03.keep k4 hb0
    refine ⟨_, _, rfl, _, rfl, b, rfl, B4, fun z H5 hz hc B5 k5 => ?_⟩
    have S05 := S04.keep k5 hb0
    obtain ⟨t, ht⟩ := lex_ok hc 0
    have hz5 : z.length ≤ 100000 := by omega
    have ft : Fine t := Fine.of ht (by rw [cl_len]; exact hz5)
    refine ⟨_, rfl, z, t, rfl, hz5, ht, fun due H6 hd0 D6 S6 => ?_⟩
    refine ⟨_, rfl, _, rfl, _, rfl, rfl, rfl, z, leaf, height, t, rfl, hz5, ht, fun f1 us1 H7 hf0 hf1 P7 S7 => ?_⟩
    have D7 := D6.same S7
    have S07 := (S05.trans S6).trans S7
    refine ⟨_, rfl, _, rfl, _, rfl, _, rfl, f1, due, us1, t, leaf, height, rfl, hf1, P7, D7, ft, fun H8 S8 => ⟨_, rfl, iteF ?_⟩⟩
    have hf8 := S8 _ _ hf1
    have lu : us1.length = t.length := by rw [pLen P7, List.length_map]
    refine ⟨_, rfl, .inl ⟨rfl, _, SqL.of hf8⟩, f1, us1, _, rfl, rfl, hf8, by have := ft.1; rw [ss]; omega, ?_⟩
    have D8 := D7.same S8
    have nd : due ≠ f1 := by
      obtain ⟨ds, e, _⟩ := D6
      exact ne_of_none e hf0
    have D9 : TksL K (upd H8 f1 (.lst (us1 ++ [.int 0]))) due t := D8.keep nd Keep.refl.upd (Stay.refl.updL hf8)
    have hf00 : H f1 = none := frees (S05.trans S6) hf0
    have S09 : Same H (upd H8 f1 (.lst (us1 ++ [.int 0]))) := (S07.trans S8).upd hf00
    generalize upd H8 f1 (.lst (us1 ++ [.int 0])) = H9 at D9 S09
    refine ⟨_, rfl, _, rfl, _, rfl, rfl, rfl, z, leaf, height, t, rfl, hz5, ht, fun f2 us2 H10 hf0 hf2 P10 S10 => ?_⟩
    refine ⟨_, rfl, _, rfl, _, rfl, f2, due, us2, t, leaf, height, rfl, hf2, P10, D9.same S10, ft, fun H11 S11 => ⟨_, rfl, iteF ?_⟩⟩
    have D11 := (D9.same S10).same S11
    refine ⟨_, rfl, z, "", 0, t, rfl, hz5, ht, fun f3 us3 H12 hf0 hf3 P12 S12 => ?_⟩
    refine ⟨_, rfl, f3, due, us3, t, "", 0, rfl, hf3, P12, D11.same S12, ft, fun H13 S13 => ⟨_, rfl, iteF ?_⟩⟩
    have D13 := (D11.same S12).same S13
    refine ⟨_, rfl, _, rfl, rfl, rfl, z, leaf, 0, t, rfl, hz5, ht, fun f4 us4 H14 hf0 hf4 P14 S14 => ?_⟩
    refine ⟨_, rfl, _, rfl, f4, due, us4, t, leaf, 0, rfl, hf4, P14, D13.same S14, ft, fun H15 S15 => ⟨_, rfl, iteF ?_⟩⟩
    exact ⟨S09.trans (((S10.trans S11).trans (S12.trans S13)).trans (S14.trans S15)), _, _, _, _, _, _, _, rfl⟩
  · rintro σ H1 ⟨S1, o1, o2, o3, o4, o5, o6, o7, rfl⟩
    have l0 : lexOf 0 (cl ("" : Str)) = .ok [] := by rw [nil_s]; rfl
    have l3 : lexOf 0 (cl ("   " : Str)) = .ok [] := by rw [show cl ("   " : Str) = [32, 32, 32] by decide +kernel]; rfl
    refine ⟨_, _, _, _, rfl, by rw [str_len0]; decide, l0, fun p1 us1 H2 hp1 e1 P1 S2 => ⟨Nat.zero_le _, fun q1 hq1 => ?_⟩⟩
    cases P1
    generalize hZ : upd _ q1 _ = H3
    have e3 := at_of3 hZ
    have S3 := same_of3 hZ hq1
    clear hZ
    refine ⟨1, true, by decide, top_lst (SqL.of (S3 _ _ e1)) (SqL.of e3) seqE_nil, _, rfl, ?_⟩
    refine ⟨_, _, _, _, rfl, by decide +kernel, l3, fun p2 us2 H4 hp2 e4 P2 S4 => ⟨Nat.zero_le _, fun q2 hq2 => ?_⟩⟩
    cases P2
    generalize hZ : upd _ q2 _ = H5
    have e5 := at_of3 hZ
    have S5 := same_of3 hZ hq2
    clear hZ
    exact ⟨1, true, by decide, top_lst (SqL.of (S5 _ _ e4)) (SqL.of e5) seqE_nil, kQ _⟩
theorem cal_law {P : Program} {w : World} {K : PySem.W.Frag} {mg : Str → Option Value} {base : Heap} (T : Top w K mg) : Callee P w K mg base CX0 4 "law" (sp_law K) [] := by
  obtain ⟨fd, F, S⟩ := ok_law (P := P) T
  exact ⟨fd, _, [], S base, T.g_law, F.kp, F.bindsN (fun _ _ _ _ _ _ us hl => match us, hl with | [_], _ => rfl), .nil⟩


end Z

namespace Z
open PySem PySem.Spec PyProof.Rows L2
/-! ### the head, the end -/
abbrev R : PySem.W.OpenRow := PySem.W.OpenLaw.row PySem.Challenge.rw_bluepaint_k02_rows_read
abbrev hk : PySem.W.Hook := He.hookX 5 fa fn [] [] exB
def ob (s : PySem.W.SharedT) : He.AlX := He.obsX 5 fa fn [] [] exB (HandSHeadRun.getT s)
theorem ob_eq (s : PySem.W.SharedT) : ob s = hk.obs s.abs := He.obsX_eq (HandSHeadRun.getT_eq s)
def loose : List Str := (["__name__", "Unread", "LETTERS", "FIGURES", "PAIRS", "Piece", "word_end", "token_end", "pieces_of", "_law_cell", "_law_bag", "_law_take", "_law_token", "_law_row", "_law_read", "_law_as_due"] : List Str)
set_option maxHeartbeats 0 in
theorem run (w : World) : HandSHeadRun.RunEq R (PySem.W.view R.prog [18]) hk ob 20000 loose w := by
  intro os
  kernel_rfl
theorem law_fd {w : World} {K : PySem.W.Frag} {mg : Str → Option Value} {P : Program} (T : Top w K mg) : ∃ fd : FuncData, (∀ (s : Shared) (u : Value), BindsTo s fd ⟨[u], []⟩ [("_law_script", u)]) ∧ ∀ base : Heap, FnOk P w K mg base CX0 4 (He.ga K "law") fd ["_law_script"] (sp_law K) := by
  obtain ⟨fd, F, S⟩ := ok_law (P := P) T
  exact ⟨fd, fun s u => FunD.bindsA (ps := ["_law_script"]) F (fun _ _ _ _ _ _ us hl => match us, hl with | [_], _ => rfl) s [u] rfl, S⟩
end Z
open PySem PySem.W PySem.Calls PyProof.Rows
set_option maxRecDepth 100000 in
set_option maxHeartbeats 0 in
theorem PySem.Challenge.cw_bluepaint_k02_rows_read_holds : PySem.Challenge.rw_bluepaint_k02_rows_read.Holds := by
  w_on; o_law
  refine HandSHeadRun.head_any (r := OpenLaw.row PySem.Challenge.rw_bluepaint_k02_rows_read) (q := view (OpenLaw.row PySem.Challenge.rw_bluepaint_k02_rows_read).prog [18]) (H := Z.hk) (ob := Z.ob) (M := 20000) (loose := Z.loose) (d := HandSHeadRun.topDef (OpenLaw.row PySem.Challenge.rw_bluepaint_k02_rows_read).prog 18) (kwd := []) Z.ob_eq
    (by kernel_rfl) (fun s => by kernel_rfl) Z.run (by kernel_rfl) (by kernel_rfl) (by kernel_rfl) (by rfl) (by first | assumption | decide +kernel) (by decide +kernel) ⟨rfl, rfl, rfl, rfl, rfl, by decide +kernel⟩ ?hw ?hc
  case hw => w_witness2
  case hc =>
    refine L2.walk_ofE (l := PySem.Challenge.rw_bluepaint_k02_rows_read) (n := 63) (k := 4) (x := "_law_script") (CX := L2.CX0) rfl (by decide) (by kernel_rfl) ⟨rfl, by decide, by decide⟩ ?F (fun _ _ _ _ z => z)
    intro w mg fa h Y G hmg0
    obtain ⟨K, KX, c⟩ := Y
    have hmg : mg ("law" : PySem.Str) = some (.ref fa) := by
      have e : (HandSHeadRun.topDef (OpenLaw.row PySem.Challenge.rw_bluepaint_k02_rows_read).prog 18).name = ("law" : PySem.Str) := by kernel_rfl
      rw [← e]
      exact hmg0
    have T : Z.Top w K mg := ⟨h, KX, G, c⟩
    have e := hmg.symm.trans T.g_law
    cases e
    obtain ⟨fd, hb, hF⟩ := Z.law_fd (P := (PySem.Challenge.rw_bluepaint_k02_rows_read).prog) T
    exact ⟨K, fd, Z.sp_law K, KX, hb, fun H a ns hl hO hS => Z.law_pre hl hO hS, fun base _ _ => hF base⟩
