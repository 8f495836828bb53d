import PyProof.Rows.All
import Wide.All
import OpenK.AllK
import Wide.FinOn
import HandS.ForMost
import HandS.ForExc
import HandS.Codes
import HandS.Defaults
import HandS.IsInst
import HandS.StrMore
import HandS.Wide
import HandS.MakeKw
import HandS.MakeKwOnly
import HandS.WordsExc
import HandS.WideMore
import HandS.Deep
import HandS.TupAny
import HandS.Style
import HandS.Flow
import HandS.Conv
import HandS.Walk
import HandS.Small
import HandS.Head0
import HandS.Head1
import HandS.Head2
import HandS.HeadEnd
import HandS.HeadHook1
import HandS.HeadHook2
import HandS.HeadHook3
import HandS.HeadHook4
import PyProof.NeKinds
import PySem.Challenge.RW_bluepaint_k05_written_and_read
set_option Elab.async false
set_option linter.all false
set_option maxRecDepth 100000
set_option maxHeartbeats 4000000
/-! my layer over HandS: callees by name, decisions, heaps -/
namespace Z
open PySem PySem.Spec PyProof.Rows L2
/-! ### callees -/
/-- a def of the module, called by places, the trailing defaults dvs -/
def Callee (P : Program) (w : World) (K : PySem.W.Frag) (mg : Str → Option Value) (base : Heap) (CX : CXT) (k : Nat) (x : Str) (sp : Sp) (dvs : List V) : Prop :=
  ∃ (fd : FuncData) (ps : List Str) (ds : List Value), FnOk P w K mg base CX k (He.ga K x) fd ps sp ∧ mg x = some (.ref (He.ga K x)) ∧ PySem.W.keepIn K (.ref (He.ga K x)) = true ∧ Binds K fd ps ds ∧ Vals dvs ds
section
variable {X : Cx} {CX : CXT} {k j : Nat} {x m : Str} {sp : Sp} {dvs : List V} {p pos apos : Pos} {e o : Expr} {es : List Expr} {ta : TE} {t : TA} {E : XK}
theorem pc (c : Callee X.prog X.w X.K X.mg X.base CX k x sp dvs) (hr : Room j X.A) (hk : k ≤ j) (hx : Passes CX X E) (hg : Gl X x) (ha : PA X (e :: es) t)
    (hdb : (x == ("__debug__" : Str)) = false := by decide) (he : starEach (e :: es) X.env = (false, eval e X.env) :: starEach es X.env := by rfl) (hpl : (backTo pos (starEach es X.env)).any (·.1) = false := by rfl) :
    PE X (.Call (.Name x p) (e :: es) [] pos) (tCall sp dvs E t) := by
  obtain ⟨fd, ps, ds, F, hm, kp, b, d⟩ := c
  exact pe_call F (hr.mono hk) hg hm kp b d hx ha hdb he hpl
theorem pc0 (c : Callee X.prog X.w X.K X.mg X.base CX k x sp dvs) (hr : Room j X.A) (hk : k ≤ j) (hx : Passes CX X E) (hg : Gl X x)
    (hdb : (x == ("__debug__" : Str)) = false := by decide) :
    PE X (.Call (.Name x p) [] [] pos) (tCall sp dvs E tNil) := by
  obtain ⟨fd, ps, ds, F, hm, kp, b, d⟩ := c
  exact pe_call0 F (hr.mono hk) hg hm kp b d hx hdb
end
/-! ### constants of the module -/
theorem pe_gs {X : Cx} {x z : Str} {pos : Pos} (h : ∃ t, X.mg x = some (.str z t)) (hg : Gl X x := by rfl) (hd : (x == ("__debug__" : Str)) = false := by decide) : PE X (.Name x pos) (tC (.str z)) :=
  C8.pe_gc hg (by obtain ⟨t, e⟩ := h; exact ⟨_, e, ⟨t, rfl⟩⟩) hd
theorem pe_gi {X : Cx} {x : Str} {z : Int} {pos : Pos} (h : ∃ t, X.mg x = some (.int z t)) (hg : Gl X x := by rfl) (hd : (x == ("__debug__" : Str)) = false := by decide) : PE X (.Name x pos) (tC (.int z)) :=
  C8.pe_gc hg (by obtain ⟨t, e⟩ := h; exact ⟨_, e, ⟨t, rfl⟩⟩) hd
theorem pe_gr {X : Cx} {x : Str} {a : Addr} {pos : Pos} (h : X.mg x = some (.ref a)) (hg : Gl X x := by rfl) (hd : (x == ("__debug__" : Str)) = false := by decide) : PE X (.Name x pos) (tC (.ref a)) :=
  C8.pe_gc hg ⟨_, h, rfl⟩ hd
/-! ### decisions -/
theorem iteD {c A B : Prop} [Decidable c] (h1 : c → A) (h2 : ¬ c → B) : if decide c = true then A else B := by
  by_cases h : c
  · rw [decide_eq_true h]; exact iteT (h1 h)
  · rw [decide_eq_false h]; exact iteF (h2 h)
theorem iteDN {c A B : Prop} [Decidable c] (h1 : ¬ c → A) (h2 : c → B) : if (!decide c) = true then A else B := by
  by_cases h : c
  · rw [decide_eq_true h]; exact iteF (h2 h)
  · rw [decide_eq_false h]; exact iteT (h1 h)
theorem iteB {b : Bool} {A B : Prop} (h1 : b = true → A) (h2 : b = false → B) : if b = true then A else B := by
  cases b with
  | true => exact iteT (h1 rfl)
  | false => exact iteF (h2 rfl)
/-! ### heaps -/
/-- all but what stands at S is as it was -/
def Keep (S : List Addr) (H H' : Hp) : Prop := ∀ b o, H b = some o → b ∉ S → H' b = some o
theorem Keep.refl {S : List Addr} {H : Hp} : Keep S H H := fun _ _ h _ => h
theorem Keep.trans {S : List Addr} {H H1 H2 : Hp} (a : Keep S H H1) (b : Keep S H1 H2) : Keep S H H2 := fun c o h n => b c o (a c o h n) n
theorem Keep.one {a b : Addr} {H H' : Hp} {o : HO} (k : Keep [a] H H') (h : H b = some o) (n : b ≠ a) : H' b = some o := k b o h (by simpa using n)
theorem Keep.upd {a : Addr} {H H1 : Hp} {o : HO} (k : Keep [a] H H1) : Keep [a] H (L2.upd H1 a o) := fun b u h n => by
  have n' : b ≠ a := by simpa using n
  rw [upd_ne n']; exact k b u h n
theorem Keep.new {S : List Addr} {H H1 : Hp} {p : Addr} {o : HO} (k : Keep S H H1) (hp : H1 p = none) : Keep S H (L2.upd H1 p o) := fun b u h n => by
  have e := k b u h n
  rw [upd_ne (ne_of_none e hp)]; exact e
theorem Keep.of {S : List Addr} {H H' : Hp} (s : Same H H') : Keep S H H' := fun b o h _ => s b o h
theorem Keep.same {H H' : Hp} (k : Keep [] H H') : Same H H' := fun b o h => k b o h (by simp)
theorem _root_.L2.Same.new {H H1 : Hp} {p : Addr} {o : HO} (k : Same H H1) (hp : H1 p = none) : Same H (L2.upd H1 p o) := fun b u h => by
  have e := k b u h
  rw [upd_ne (ne_of_none e hp)]; exact e
theorem upd_new {H : Hp} {p a : Addr} {o u : HO} (hp : H p = none) (h : H a = some u) : L2.upd H p o a = some u := by
  rw [upd_ne (ne_of_none h hp)]; exact h
theorem upd_old {H : Hp} {p a : Addr} {o u : HO} (n : a ≠ p) (h : H a = some u) : L2.upd H p o a = some u := by
  rw [upd_ne n]; exact h
end Z
namespace Z
open PySem PySem.Spec PyProof.Rows L2
/-! ### texts as codes -/
abbrev cl (z : Str) : List Nat := z.cps.toList
theorem cl_len (z : Str) : (cl z).length = z.length := Array.length_toList
end Z
namespace Z
open PySem PySem.Spec PyProof.Rows L2
/-! ### texts: s * n, s[::-1] -/
/-- n times the codes -/
def rep (n : Int) (l : List Nat) : List Nat := (List.replicate n.toNat l).flatten
theorem foldl_arr (l : List Nat) : ∀ (n : Nat) (acc : Array Nat), ((List.replicate n l.toArray).foldl (· ++ ·) acc).toList = acc.toList ++ (List.replicate n l).flatten
  | 0, acc => by simp
  | n + 1, acc => by
    rw [List.replicate_succ, List.foldl_cons, foldl_arr l n, List.replicate_succ, List.flatten_cons]
    simp
theorem mul_cl (x : Str) (n : Int) : cl (Txt.mul x n) = rep n (cl x) := by
  unfold Txt.mul rep
  by_cases h1 : n < 1
  · rw [if_pos h1, show n.toNat = 0 by omega]; rfl
  · rw [if_neg h1]
    by_cases h2 : (n == 1 || x.length == 0) = true
    · rw [if_pos h2]
      rcases Bool.or_eq_true_iff.mp h2 with h3 | h3
      · have e : n = 1 := by simpa using h3
        subst e; simp
      · have e : cl x = [] := List.eq_nil_of_length_eq_zero (by rw [cl_len]; simpa using h3)
        rw [e]; simp
    · rw [if_neg h2]
      have q := foldl_arr (cl x) n.toNat #[]
      simp only [cl, Array.toArray_toList] at q ⊢
      rw [q]; rfl
theorem op_mul_str {X : Cx} : OpR X (binaryOp .Mult) (fun x y H Q => ∃ (z : Str) (n : Int), x = .str z ∧ y = .int n ∧ n ≤ 100000 ∧ -100000 ≤ n ∧ z.length ≤ 100000 ∧ z.length * n.toNat ≤ 16777216 ∧ ∀ y : Str, cl y = rep n (cl z) → Q (.str y) H) := by
  intro pins s σ H x y v u Q I rx ry h
  obtain ⟨z, n, rfl, rfl, h1, h2, h3, h4, q⟩ := h
  obtain ⟨t, rfl⟩ := rx
  obtain ⟨t', rfl⟩ := ry
  refine SB.mul ⟨?_, fun a _ => ?_, fun a _ => ?_⟩ fun t' k => ⟨.str (Txt.mul z n), H, I.tok _, ⟨_, rfl⟩, q _ (mul_cl z n)⟩
  · rw [decide_eq_false (by omega), decide_eq_false (by omega)]; rfl
  · have h5 : (100000 : Int) ≤ (2 ^ 63 - 1) / n := by
      refine Int.le_ediv_of_mul_le (by omega) ?_
      omega
    omega
  · unfold PySem.Builtin.Str.tooLong
    first
      | (refine decide_eq_false ?_; rw [sizeLine_eq]; omega)
      | (simp only [sizeLine_eq]; simp; omega)
def tRevS (te : TE) : TE := fun σ H Q => te σ H fun x H1 => ∃ z, x = .str z ∧ z.length ≤ sizeLine ∧ ∀ y : Str, cl y = (cl z).reverse → Q (.str y) H1
theorem rev_codes (z : Str) (c : Array Nat) (hc : c = z.cps) : (((List.range z.length).map fun k => z.length - 1 - k).filterMap (c[·]?)) = (cl z).reverse := by
  subst hc
  have hl := cl_len z
  rw [PyProof.Rows.filterMap_get _ _ fun i hi => by
    obtain ⟨k, hk, rfl⟩ := List.mem_map.mp hi
    have hk' := List.mem_range.mp hk
    show z.length - 1 - k < z.length
    omega]
  rw [List.map_map]
  refine List.ext_getElem? fun i => ?_
  rw [List.getElem?_map]
  by_cases h : i < z.length
  · rw [List.getElem?_range h, List.getElem?_reverse (by omega), hl]
    show some (z.cps.getD (z.length - 1 - i) 0) = (cl z)[z.length - 1 - i]?
    have h2 : z.length - 1 - i < (cl z).length := by omega
    rw [List.getElem?_eq_getElem h2, Array.getD_eq_getD_getElem?, ← Array.getElem?_toList, List.getElem?_eq_getElem h2]
    rfl
  · have e1 : (List.range z.length)[i]? = none := List.getElem?_eq_none (by rw [List.length_range]; omega)
    have e2 : (cl z).reverse[i]? = none := List.getElem?_eq_none (by rw [List.length_reverse]; omega)
    rw [e1, e2]; rfl
theorem pe_revS {X : Cx} {e : Expr} {te : TE} {k : Nat} {p1 p2 p3 pos : Pos} (he : PE X e te) : PE X (.Subscript e (.Slice none none (some (.UnaryOp .USub (.Constant (.int 1) k p1) p2)) p3) pos) (tRevS te) := by
  refine ⟨fun pins s σ H Q I h => ?_⟩
  refine Subscript_ (thn (he.run pins s σ H _ I h) fun v s1 ⟨x, H1, I1, r1, q1⟩ => ?_)
  obtain ⟨z, ex, hz, q⟩ := q1
  subst ex
  obtain ⟨t, rfl⟩ := r1
  have hst : PO X (some (.UnaryOp .USub (.Constant (.int 1) k p1) p2)) (tPart (tUn (rU fun i => .int (-i)) (tC (.int 1)))) := po_some (pe_un un_neg pe_int)
  refine wpAny_Slice (thn (po_none.run pins s1 σ H1 (fun o H2 => o = none ∧ H2 = H1) I1 ⟨rfl, rfl⟩) fun vl s2 ⟨l, H2, I2, pl, el, e2⟩ => ?_)
  subst el e2
  refine thn (po_none.run pins s2 σ H2 (fun o H3 => o = none ∧ H3 = H2) I2 ⟨rfl, rfl⟩) fun vu s3 ⟨u, H3, I3, pu, eu, e3⟩ => ?_
  subst eu e3
  refine thn (hst.run pins s3 σ H3 (fun o H4 => o = some (-1) ∧ H4 = H3) I3 ⟨1, rfl, -1, rfl, rfl, rfl⟩) fun vs s4 ⟨o, H4, I4, ps, eo, e4⟩ => ?_
  subst eo e4
  have I5 : Inv X pins σ H4 { s4 with heap := s4.heap.push { cls := .type "slice", data := .fields #[vl, vu, vs] } } := I4.kept (t' := s4.toks) fun b ob q => Heap.get?_push_of_some _ q
  show wpAny (model X.prog X.w) X.A (subscriptTail e (.Slice none none (some (.UnaryOp .USub (.Constant (.int 1) k p1) p2)) p3) (.str z t) (.ref s4.heap.objs.size)) (EP X pins σ Q) X.xe { s4 with heap := s4.heap.push { cls := .type "slice", data := .fields #[vl, vu, vs] } }
  cases pl
  cases pu
  cases ps with
  | int i tk =>
  refine tail_any (ops := [.str z t, .ref s4.heap.objs.size]) (typeIs_str _ z t) (F.slot_str_getitem.lookup) ?_ (by with_unfolding_all rfl)
  refine wpAny_getItem_str_slice (l := none) (u := none) (st := some (-1, tk)) ⟨_, Heap.get?_push_size _ rfl, rfl, rfl⟩ rfl ?_
  have e : (slicePicked z none none (some (-1, tk))) = (List.range z.length).map fun k => z.length - 1 - k := PyProof.Rows.picked_rev z.length
  have hf : sliceMade z t none none (some (-1, tk)) = Made.str ⟨((slicePicked z none none (some (-1, tk))).filterMap (z.cps[·]?)).toArray⟩ := by
    unfold sliceMade
    rw [if_neg]
    show ¬ (((-1 : Int) == 1 && _) = true)
    simp
  rw [hf, e, rev_codes z _ rfl]
  have hc : cl ⟨(cl z).reverse.toArray⟩ = (cl z).reverse := by simp
  refine ⟨?_, .str _, H4, I5.tok _, ⟨_, rfl⟩, q _ hc⟩
  show ((cl z).reverse.toArray).size ≤ sizeLine
  rw [List.size_toArray, List.length_reverse, cl_len]
  exact hz
/-! ### small things -/
theorem isi_other {K : PySem.W.Frag} {t : String} (T : String) (h : kitB t T = some false) : PySem.W.kitOne K (.type t) (.type T) = some false := kit_ty h
theorem str_eq {a b : Str} : a = b ↔ cl a = cl b := by
  obtain ⟨a⟩ := a; obtain ⟨b⟩ := b
  constructor
  · intro h; rw [h]
  · intro h
    have : a = b := Array.ext' h
    rw [this]
theorem cl_append (a b : Str) : cl (a ++ b) = cl a ++ cl b := Array.toList_append
theorem len_append (a b : Str) : (a ++ b).length = a.length + b.length := by rw [← cl_len, cl_append, List.length_append, cl_len, cl_len]
end Z
namespace Z
open PySem PySem.Spec PyProof.Rows L2
theorem at_of2 {α : Type} {xs : List α} {r : Int} {v : α} (h0 : 0 ≤ r) (h : xs[r.toNat]? = some v) : atI xs r = some v := by
  have q := atI_nat h
  rwa [Int.toNat_of_nonneg h0] at q
end Z
namespace Z
open PySem PySem.Spec PyProof.Rows L2
theorem at_of3 {H H' : Hp} {p : Addr} {o : HO} (h : L2.upd H p o = H') : H' p = some o := by rw [← h]; exact upd_same
theorem same_of3 {H H' : Hp} {p : Addr} {o : HO} (h : L2.upd H p o = H') (hp : H p = none) : Same H H' := by rw [← h]; exact (Same.refl H).new hp
end Z
namespace Z
open PySem PySem.Spec PyProof.Rows L2
theorem take_more {α : Type} : ∀ {l : List α} {i : Nat} {x : α}, l[i]? = some x → l.take (i + 1) = l.take i ++ [x]
  | [], i, x, h => by simp at h
  | a :: l, 0, x, h => by
    have e : a = x := Option.some.inj h
    subst e
    rfl
  | a :: l, i + 1, x, h => by
    have ih := take_more (l := l) (i := i) (x := x) h
    show a :: l.take (i + 1) = a :: l.take i ++ [x]
    rw [ih]
    rfl
/-- what stood at the start stands, where only what came later is written -/
theorem _root_.L2.Same.keep {H0 H H' : Hp} {b : Addr} (s : Same H0 H) (k : Keep [b] H H') (hb : H0 b = none) : Same H0 H' := fun c o h => k.one (s c o h) (ne_of_none h hb)
theorem frees {H H' : Hp} {p : Addr} (s : Same H H') (h : H' p = none) : H p = none := Same.free s h
end Z
namespace Z
open PySem PySem.Spec PyProof.Rows L2
/-! ### makers, methods -/
def Maker (P : Program) (w : World) (K : PySem.W.Frag) (mg : Str → Option Value) (base : Heap) (CX : CXT) (k : Nat) (x : Str) (sp : Sp) (dvs : List V) : Prop :=
  ∃ (f : Addr) (fd : FuncData) (ps : List Str) (ds : List Value), Mk K (He.ga K x) f ∧ FnOk P w K mg base CX k f fd ps sp ∧ mg x = some (.ref (He.ga K x)) ∧ Binds K fd ps ds ∧ Vals dvs ds
def MethC (P : Program) (w : World) (K : PySem.W.Frag) (mg : Str → Option Value) (base : Heap) (CX : CXT) (k : Nat) (c m : Str) (sp : Sp) (dvs : List V) : Prop :=
  ∃ (f : Addr) (fd : FuncData) (ps : List Str) (ds : List Value), Cls K (He.ga K c) ∧ Meth K (He.ga K c) m f ∧ FnOk P w K mg base CX k f fd ps sp ∧ Binds K fd ps ds ∧ Vals dvs ds
section
variable {X : Cx} {CX : CXT} {k j : Nat} {x m c : Str} {sp : Sp} {dvs : List V} {p pos apos : Pos} {e o : Expr} {es : List Expr} {ta : TE} {t : TA} {E : XK}
theorem pmk (h : Maker X.prog X.w X.K X.mg X.base CX k x sp dvs) (hr : Room j X.A) (hk : k + 1 ≤ j) (hx : Passes CX X E) (hg : Gl X x) (ha : PA X (e :: es) t)
    (hdb : (x == ("__debug__" : Str)) = false := by decide) (he : starEach (e :: es) X.env = (false, eval e X.env) :: starEach es X.env := by rfl) (hpl : (backTo pos (starEach es X.env)).any (·.1) = false := by rfl) :
    PE X (.Call (.Name x p) (e :: es) [] pos) (tMake (He.ga X.K x) sp dvs E t) := by
  obtain ⟨f, fd, ps, ds, M, F, hm, b, d⟩ := h
  exact pe_make M F (hr.mono hk) hg hm b d hx ha hdb he hpl
theorem pmk0 (h : Maker X.prog X.w X.K X.mg X.base CX k x sp dvs) (hr : Room j X.A) (hk : k + 1 ≤ j) (hx : Passes CX X E) (hg : Gl X x)
    (hdb : (x == ("__debug__" : Str)) = false := by decide) : PE X (.Call (.Name x p) [] [] pos) (tMake (He.ga X.K x) sp dvs E tNil) := by
  obtain ⟨f, fd, ps, ds, M, F, hm, b, d⟩ := h
  exact pe_make0 M F (hr.mono hk) hg hm b d hx hdb
theorem pmt {pl : Sem Bool} (h : MethC X.prog X.w X.K X.mg X.base CX k c m sp dvs) (hr : Room j X.A) (hk : k ≤ j) (hx : Passes CX X E) (ho : PE X o ta) (ha : PA X (e :: es) t)
    (hst : starEach (e :: es) X.env = (false, eval e X.env) :: starEach es X.env := by rfl) (hpl : (backTo pos (starEach es X.env)).any (·.1) = false := by rfl)
    (ht : eval (.Call (.Attribute o m apos) (e :: es) [] pos) X.env = (do
      let ov ← eval o X.env
      standAt apos.atName
      let (f, first) ← holding [ov] (getMethod ov m pl)
      callWith pos f first (backTo pos (starEach (e :: es) X.env)) (backToKw pos (keywordEach [] X.env))) := by rfl) :
    PE X (.Call (.Attribute o m apos) (e :: es) [] pos) (tMeth (He.ga X.K c) m sp dvs E ta t) := by
  obtain ⟨f, fd, ps, ds, cl, me, F, b, d⟩ := h
  exact pe_meth ho cl me F (hr.mono hk) b d hx ha hst hpl ht
theorem pmt0 {pl : Sem Bool} (h : MethC X.prog X.w X.K X.mg X.base CX k c m sp dvs) (hr : Room j X.A) (hk : k ≤ j) (hx : Passes CX X E) (ho : PE X o ta)
    (ht : eval (.Call (.Attribute o m apos) [] [] pos) X.env = (do
      let ov ← eval o X.env
      standAt apos.atName
      let (f, first) ← holding [ov] (getMethod ov m pl)
      callWith pos f first (backTo pos (starEach [] X.env)) (backToKw pos (keywordEach [] X.env))) := by rfl) :
    PE X (.Call (.Attribute o m apos) [] [] pos) (tMeth (He.ga X.K c) m sp dvs E ta tNil) := by
  obtain ⟨f, fd, ps, ds, cl, me, F, b, d⟩ := h
  exact pe_meth0 ho cl me F (hr.mono hk) b d hx ht
end
/-! ### tuples of the written part, at any address -/
def tupA (K : PySem.W.Frag) (a : Addr) (vs : List V) : Bool := match K.lookup a with
  | some o => (match o.data with
    | .seq its _ => decide (o.cls = .type "tuple") && (decide (its.size ≤ sizeLine) && He.relAll vs its.toList)
    | _ => false)
  | none => false
theorem tupA_ok {K : PySem.W.Frag} {a : Addr} {vs : List V} (h : tupA K a vs = true) (H : Hp) : SqT K H a vs := by
  unfold tupA at h
  cases q : K.lookup a with
  | none => rw [q] at h; cases h
  | some o =>
    rw [q] at h
    cases z : o.data with
    | seq its n =>
      simp only [z] at h
      obtain ⟨h1, h2⟩ := He.ba h
      obtain ⟨h3, h4⟩ := He.ba h2
      exact .inr ⟨o, its, n, q, of_decide_eq_true h1, z, of_decide_eq_true h3, He.relAll_ok h4⟩
    | _ => simp only [z] at h; cases h
/-! ### what never changes stays -/
/-- tuples, instances, their dicts -/
def immB : HO → Bool
  | .tup _ => true
  | .ins _ _ _ => true
  | .own _ => true
  | .frz _ (.tup _) => true
  | _ => false
def Stay (H H' : Hp) : Prop := ∀ c o, H c = some o → immB o = true → H' c = some o
theorem Stay.refl {H : Hp} : Stay H H := fun _ _ h _ => h
theorem Stay.trans {H H1 H2 : Hp} (a : Stay H H1) (b : Stay H1 H2) : Stay H H2 := fun c o h i => b c o (a c o h i) i
theorem _root_.L2.Same.stay {H H' : Hp} (s : Same H H') : Stay H H' := fun c o h _ => s c o h
theorem Stay.seqT {K : PySem.W.Frag} {H H' : Hp} {a : Addr} {xs : List V} (e : Stay H H') (h : H a = some (.tup xs)) : H' a = some (.tup xs) := e _ _ h rfl
theorem Keep.stay {H H' : Hp} {b : Addr} {xs : List V} (k : Keep [b] H H') (hb : H b = some (.lst xs)) : Stay H H' := fun c o h i => k.one h (ne_of h hb (by intro z; subst z; cases i))
end Z
namespace Z
open PySem PySem.Spec PyProof.Rows L2
/-! ### calls with keywords -/
/-- one item, as a list -/
def pick {α : Type} (i : Nat) (l : List α) : List α := (l.drop i).take 1
theorem vpick {vs : List V} {us : List Value} (i : Nat) (r : Vals vs us) : Vals (pick i vs) (pick i us) := Vals.take 1 (Vals.drop i r)
/-- a def of the module, called with n places and the keywords ks; gV: its parameters' values in order -/
def CalleeK (P : Program) (w : World) (K : PySem.W.Frag) (mg : Str → Option Value) (base : Heap) (CX : CXT) (k : Nat) (x : Str) (sp : Sp) (n : Nat) (ks : List Str) (gV : List V → List V → List V) : Prop :=
  ∃ (fd : FuncData) (ps : List Str) (g : List Value → List Value → List Value), FnOk P w K mg base CX k (He.ga K x) fd ps sp ∧ mg x = some (.ref (He.ga K x)) ∧ PySem.W.keepIn K (.ref (He.ga K x)) = true ∧ KBn K fd ps n ks g gV
def MakerK (P : Program) (w : World) (K : PySem.W.Frag) (mg : Str → Option Value) (base : Heap) (CX : CXT) (k : Nat) (x : Str) (sp : Sp) (n : Nat) (ks : List Str) (gV : List V → List V → List V) : Prop :=
  ∃ (f : Addr) (fd : FuncData) (ps : List Str) (g : List Value → List Value → List Value), Mk K (He.ga K x) f ∧ FnOk P w K mg base CX k f fd ps sp ∧ mg x = some (.ref (He.ga K x)) ∧ KBn K fd ps (n + 1) ks g gV
section
variable {X : Cx} {CX : CXT} {k j n : Nat} {x : Str} {sp : Sp} {ks : List Str} {gV : List V → List V → List V} {p pos : Pos} {e : Expr} {es : List Expr} {kws : List Keyword} {t tk : TA} {E : XK}
theorem pck (c : CalleeK X.prog X.w X.K X.mg X.base CX k x sp n ks gV) (hr : Room j X.A) (hk : k ≤ j) (hx : Passes CX X E) (hg : Gl X x) (ha : PA X (e :: es) t) (hkw : PK X kws tk)
    (hall : (backToKw pos (keywordEach kws X.env)).all (·.1.isSome) = true := by rfl) (hks : (backToKw pos (keywordEach kws X.env)).filterMap (·.1) = ks := by rfl)
    (hdb : (x == ("__debug__" : Str)) = false := by decide) (he : starEach (e :: es) X.env = (false, eval e X.env) :: starEach es X.env := by rfl)
    (hpl : ((backTo pos (starEach (e :: es) X.env)).any (·.1) || (backToKw pos (keywordEach kws X.env)).any (·.1.isNone)) = false := by rfl) :
    PE X (.Call (.Name x p) (e :: es) kws pos) (tCallN n ks.length sp gV E t tk) := by
  obtain ⟨fd, ps, g, F, hm, kp, hb⟩ := c
  exact pe_callN F (hr.mono hk) hg hm kp hb hx ha hkw hall hks hdb he hpl
theorem pck0 (c : CalleeK X.prog X.w X.K X.mg X.base CX k x sp 0 ks gV) (hr : Room j X.A) (hk : k ≤ j) (hx : Passes CX X E) (hg : Gl X x) (hkw : PK X kws tk)
    (hall : (backToKw pos (keywordEach kws X.env)).all (·.1.isSome) = true := by rfl) (hks : (backToKw pos (keywordEach kws X.env)).filterMap (·.1) = ks := by rfl)
    (hdb : (x == ("__debug__" : Str)) = false := by decide)
    (hpl : ((backTo pos (starEach [] X.env)).any (·.1) || (backToKw pos (keywordEach kws X.env)).any (·.1.isNone)) = false := by rfl) :
    PE X (.Call (.Name x p) [] kws pos) (tCallN 0 ks.length sp gV E tNil tk) := by
  obtain ⟨fd, ps, g, F, hm, kp, hb⟩ := c
  refine ⟨fun pins s σ H Q I h => ?_⟩
  refine wpAny_Call_Name_kw (ld_glob I hg hm ?_ hdb)
  refine PySem.W.callWith_KW0 (h₀ := X.base) I.ok.mod.kin kp hall ?_ hpl
  refine thn (hkw.run pos pins s σ H _ I h) fun ws s2 ⟨zs, H2, I2, rz, l1, l2, q2⟩ => ⟨I2.kIn, ?_⟩
  rw [hks]
  exact run_fnN (us := []) (vs := []) F (hr.mono hk) hb hx I2 .nil rz rfl l2 q2
theorem pmkk (c : MakerK X.prog X.w X.K X.mg X.base CX k x sp n ks gV) (hr : Room j X.A) (hk : k + 1 ≤ j) (hx : Passes CX X E) (hg : Gl X x) (ha : PA X (e :: es) t) (hkw : PK X kws tk)
    (hall : (backToKw pos (keywordEach kws X.env)).all (·.1.isSome) = true := by rfl) (hks : (backToKw pos (keywordEach kws X.env)).filterMap (·.1) = ks := by rfl)
    (hdb : (x == ("__debug__" : Str)) = false := by decide) (he : starEach (e :: es) X.env = (false, eval e X.env) :: starEach es X.env := by rfl)
    (hpl : ((backTo pos (starEach (e :: es) X.env)).any (·.1) || (backToKw pos (keywordEach kws X.env)).any (·.1.isNone)) = false := by rfl) :
    PE X (.Call (.Name x p) (e :: es) kws pos) (tMakeN (He.ga X.K x) n ks.length sp gV E t tk) := by
  obtain ⟨f, fd, ps, g, M, F, hm, hb⟩ := c
  exact pe_makeN M F (hr.mono hk) hg hm hb hx ha hkw hall hks hdb he hpl
theorem pmkk0 (c : MakerK X.prog X.w X.K X.mg X.base CX k x sp 0 ks gV) (hr : Room j X.A) (hk : k + 1 ≤ j) (hx : Passes CX X E) (hg : Gl X x) (hkw : PK X kws tk)
    (hall : (backToKw pos (keywordEach kws X.env)).all (·.1.isSome) = true := by rfl) (hks : (backToKw pos (keywordEach kws X.env)).filterMap (·.1) = ks := by rfl)
    (hdb : (x == ("__debug__" : Str)) = false := by decide)
    (hpl : ((backTo pos (starEach [] X.env)).any (·.1) || (backToKw pos (keywordEach kws X.env)).any (·.1.isNone)) = false := by rfl) :
    PE X (.Call (.Name x p) [] kws pos) (tMakeN (He.ga X.K x) 0 ks.length sp gV E tNil tk) := by
  obtain ⟨f, fd, ps, g, M, F, hm, hb⟩ := c
  exact pe_makeK0 M F (hr.mono hk) hg hm hb hx hkw hall hks hdb hpl
end
/-- no keyword, no default lacks -/
theorem kbind_all {K : PySem.W.Frag} {fd : FuncData} {ps ks : List Str} {n : Nat} (g : {α : Type} → List α → List α → List α) (hrel : ∀ {vs zs : List V} {us ws : List Value}, Vals vs us → Vals zs ws → Vals (g vs zs) (g us ws))
    (h : ∀ us ws : List Value, us.length = n → ws.length = ks.length → bindArgs fd ⟨us, ks.zip ws⟩ = pure (ps.zip (g us ws))) : KBn K fd ps n ks (fun us ws => g us ws) (fun vs zs => g vs zs) :=
  ⟨fun _ us ws _ l1 l2 => .of_eq (h us ws l1 l2), fun a b => hrel a b⟩
theorem kbindsA {K : PySem.W.Frag} {x qual : Str} {params : Arguments} {body : List Stmt} {scope : Scope} {f : Addr} {fd : FuncData} {ps ks : List Str} {n : Nat} (F : FunD K x qual params body scope [] [] f fd)
    (g : {α : Type} → List α → List α → List α) (hrel : ∀ {vs zs : List V} {us ws : List Value}, Vals vs us → Vals zs ws → Vals (g vs zs) (g us ws))
    (h : ∀ (kV doc pm : Value) (an : Option Addr) (cdv ct : Value) (us ws : List Value), us.length = n → ws.length = ks.length → bindArgs (PySem.W.fnOf x qual params body scope .none kV doc pm an cdv ct) ⟨us, ks.zip ws⟩ = pure (ps.zip (g us ws))) : KBn K fd ps n ks (fun us ws => g us ws) (fun vs zs => g vs zs) := by
  obtain ⟨oc, od, dV, kV, doc, pm, an, cdv, ct, osl, rfl, lk, hcd, hD, hK⟩ := F.ex
  rcases hD with ⟨_, rfl⟩ | ⟨e, _⟩
  · exact kbind_all g hrel fun us ws l1 l2 => h kV doc pm an cdv ct us ws l1 l2
  · exact absurd rfl e
end Z
namespace Z
open PySem PySem.Spec PyProof.Rows L2
/-! ### isinstance and own classes -/
structure ClsI (K : PySem.W.Frag) (C : Addr) : Prop where
  cls : Cls K C
  ha : PySem.W.findIn K (.ref C) "__class__" = some (some (.builtin "object.__class__"))
  hn : PySem.W.specialIn K (.builtin "object.__class__") "__get__" = some (some (.builtin "getset_descriptor.__get__"))
  htk : PySem.W.takesIn K (.builtin "object.__class__") = some true
  hm : PySem.W.mroIn K C (.type "object") = some true
  ty : ∀ t ∈ ["NoneType", "bool", "int", "str", "list", "tuple", "dict", "float", "set"], PySem.W.kitOne K (.type t) (.ref C) = some false ∧ PySem.W.kitOne K (.ref C) (.type t) = some false
def clsIB (K : PySem.W.Frag) (x : Str) : Bool :=
  (PySem.W.plainGet K (He.ga K x) Str.empty && (PySem.W.hasDictIn K (He.ga K x) && (PySem.W.plainOver K (He.ga K x) && He.eqO (PySem.W.findIn K (.ref (He.ga K x)) "__setattr__") (some (some (.builtin "object.__setattr__")))))) &&
  (He.eqO (PySem.W.findIn K (.ref (He.ga K x)) "__class__") (some (some (.builtin "object.__class__"))) && (He.eqO (PySem.W.specialIn K (.builtin "object.__class__") "__get__") (some (some (.builtin "getset_descriptor.__get__"))) &&
  (decide (PySem.W.takesIn K (.builtin "object.__class__") = some true) && (decide (PySem.W.mroIn K (He.ga K x) (.type "object") = some true) &&
  (["NoneType", "bool", "int", "str", "list", "tuple", "dict", "float", "set"].all fun t => decide (PySem.W.kitOne K (.type t) (.ref (He.ga K x)) = some false) && decide (PySem.W.kitOne K (.ref (He.ga K x)) (.type t) = some false))))))
theorem clsIB_ok {K : PySem.W.Frag} {x : Str} (h : clsIB K x = true) : ClsI K (He.ga K x) := by
  obtain ⟨h0, h⟩ := He.ba h
  obtain ⟨a1, a⟩ := He.ba h0
  obtain ⟨a2, a⟩ := He.ba a
  obtain ⟨a3, a4⟩ := He.ba a
  obtain ⟨h1, h⟩ := He.ba h
  obtain ⟨h2, h⟩ := He.ba h
  obtain ⟨h3, h⟩ := He.ba h
  obtain ⟨h4, h5⟩ := He.ba h
  refine ⟨⟨a1, a2, a3, He.eqO_ok a4⟩, He.eqO_ok h1, He.eqO_ok h2, of_decide_eq_true h3, of_decide_eq_true h4, fun t ht => ?_⟩
  obtain ⟨q1, q2⟩ := He.ba (List.all_eq_true.mp h5 t ht)
  exact ⟨of_decide_eq_true q1, of_decide_eq_true q2⟩
def kcB (K : PySem.W.Frag) (x y : Str) (b : Bool) : Bool := decide (PySem.W.kitOne K (.ref (He.ga K x)) (.ref (He.ga K y)) = some b)
theorem ClsI.at {K : PySem.W.Frag} {C : Addr} (c : ClsI K C) {H : Hp} {a dx : Addr} {fs : List (Str × V)} (h : H a = some (.ins C dx fs)) : TyX K H (.ref a) (.ref C) := .base (.ins h c.cls c.ha c.hn c.htk c.hm)
end Z
namespace Z
open PySem PySem.Spec PyProof.Rows L2
/-! ### sizes, single signs -/
theorem ss : sizeLine = 16777216 := sizeLine_eq
theorem one_nl : ("\n" : Str) = ⟨#[10]⟩ := by decide +kernel
theorem one_bl : (" " : Str) = ⟨#[32]⟩ := by decide +kernel
theorem nil_s : cl ("" : Str) = [] := by decide +kernel
theorem V_one {a b : Nat} : decide (V.str ⟨#[a]⟩ = V.str ⟨#[b]⟩) = decide (a = b) := by
  rw [decide_eq_decide, V.str.injEq, str_eq]; simp
theorem ix_s {z : Str} {r : Int} (h0 : 0 ≤ r) (h1 : r < z.length) : ∃ c, atI z.cps.toList r = some c := by
  have h : r.toNat < (cl z).length := by rw [cl_len]; omega
  exact ⟨_, at_of2 h0 (List.getElem?_eq_getElem h)⟩
theorem len1 (c : Nat) : (⟨#[c]⟩ : Str).length = 1 := rfl
theorem at_all {P : V → Prop} {xs : List V} {r : Int} (h0 : 0 ≤ r) (h1 : r < xs.length) (h : ∀ v ∈ xs, P v) : ∃ v, atI xs r = some v ∧ P v := by
  have hl : r.toNat < xs.length := by omega
  exact ⟨_, at_of2 h0 (List.getElem?_eq_getElem hl), h _ (List.getElem_mem hl)⟩
theorem str_len0 : ("" : Str).length = 0 := by decide +kernel
theorem str_len_b : (" " : Str).length = 1 := by decide +kernel
theorem str_len_n : ("\n" : Str).length = 1 := by decide +kernel
theorem str_len_q : ("\"" : Str).length = 1 := by decide +kernel
theorem line_of {n : Nat} (h : n ≤ 16777216) : n ≤ sizeLine := by rw [ss]; exact h
end Z
namespace Z
open PySem PySem.Spec PyProof.Rows L2
theorem putF_nil (f : Str) (v : V) : putF f v [] = [(f, v)] := rfl
theorem putF_ne {f g : Str} (v x : V) (r : List (Str × V)) (h : g ≠ f) : putF f v ((g, x) :: r) = (g, x) :: putF f v r := by
  show (if g = f then _ else _) = _
  rw [if_neg h]
theorem putF_eq (f : Str) (v x : V) (r : List (Str × V)) : putF f v ((f, x) :: r) = (f, v) :: r := by
  show (if f = f then _ else _) = _
  rw [if_pos rfl]
end Z
namespace Z
open PySem PySem.Spec PyProof.Rows L2
/-! ### parts of texts and lists -/
theorem part_nat {α : Type} (l : List α) (i j : Nat) : (l.drop (min i l.length)).take (min j l.length - min i l.length) = (l.drop i).take (j - i) := by
  by_cases h : i ≤ l.length
  · rw [Nat.min_eq_left h]
    by_cases h2 : j ≤ l.length
    · rw [Nat.min_eq_left h2]
    · rw [Nat.min_eq_right (by omega), List.take_of_length_le (by rw [List.length_drop]; omega), List.take_of_length_le (by rw [List.length_drop]; omega)]
  · rw [show l.drop i = [] from List.drop_eq_nil_of_le (by omega), List.drop_eq_nil_of_le (by omega)]
    simp
theorem cut_nat (z : Str) (i j : Nat) : cl (cutS z (some (i : Int)) (some (j : Int))) = ((cl z).drop i).take (j - i) := by
  show (((cl z).drop (HT.sIx z.length 0 (some (i : Int)))).take (HT.sIx z.length z.length (some (j : Int)) - HT.sIx z.length 0 (some (i : Int)))) = _
  rw [HT.sIx_nat, HT.sIx_nat, ← cl_len, part_nat]
theorem cut_to (z : Str) (j : Nat) : cl (cutS z none (some (j : Int))) = (cl z).take j := by
  show (((cl z).drop 0).take (HT.sIx z.length z.length (some (j : Int)) - 0)) = _
  rw [HT.sIx_nat, ← cl_len, List.drop_zero, Nat.sub_zero]
  by_cases h : j ≤ (cl z).length
  · rw [Nat.min_eq_left h]
  · rw [Nat.min_eq_right (by omega), List.take_of_length_le (Nat.le_refl _), List.take_of_length_le (by omega)]
theorem cut_from (z : Str) (i : Nat) : cl (cutS z (some (i : Int)) none) = (cl z).drop i := by
  show (((cl z).drop (HT.sIx z.length 0 (some (i : Int)))).take (z.length - HT.sIx z.length 0 (some (i : Int)))) = _
  rw [HT.sIx_nat, ← cl_len]
  by_cases h : i ≤ (cl z).length
  · rw [Nat.min_eq_left h, List.take_of_length_le (by rw [List.length_drop]; omega)]
  · rw [Nat.min_eq_right (by omega), show (cl z).drop i = [] from List.drop_eq_nil_of_le (by omega), List.drop_eq_nil_of_le (Nat.le_refl _), List.take_nil]
theorem cut_eq {a : Str} {l : List Nat} (h : cl a = l) : a = ⟨l.toArray⟩ := by rw [str_eq, h]
end Z
namespace Z
open PySem PySem.Spec PyProof.Rows L2
theorem Stay.updL {H H1 : Hp} {D : Addr} {xs : List V} {o : HO} (s : Stay H H1) (h : H1 D = some (.lst xs)) : Stay H (L2.upd H1 D o) := fun c u e i => by
  have q := s c u e i
  rw [upd_ne (ne_of q h (by intro z; subst z; cases i))]
  exact q
theorem Stay.new {H H1 : Hp} {D : Addr} {o : HO} (s : Stay H H1) (h : H1 D = none) : Stay H (L2.upd H1 D o) := fun c u e i => by
  have q := s c u e i
  rw [upd_ne (ne_of_none q h)]
  exact q
/-- a list made since H0 is written -/
theorem _root_.L2.Same.upd {H0 H : Hp} {b : Addr} {o : HO} (s : Same H0 H) (hb : H0 b = none) : Same H0 (L2.upd H b o) := s.keep Keep.refl.upd hb
end Z
namespace Z
open PySem PySem.Spec PyProof.Rows L2
theorem sqT_ty {K : PySem.W.Frag} {H : Hp} {a : Addr} {xs : List V} (h : SqT K H a xs) : TyX K H (.ref a) (.type "tuple") := by
  rcases h with (h | ⟨o, h⟩) | ⟨o, its, n, e, c, _⟩
  · exact .base (.tup h)
  · exact .fTuple h
  · exact .kTuple e c
end Z
namespace Z
open PySem PySem.Spec PyProof.Rows L2
theorem V_nil {a : Str} : decide (V.str a = V.str ("" : Str)) = decide (cl a = []) := by
  rw [decide_eq_decide, V.str.injEq, str_eq, nil_s]
theorem V_str {a b : Str} : decide (V.str a = V.str b) = decide (cl a = cl b) := by
  rw [decide_eq_decide, V.str.injEq, str_eq]
end Z
namespace Z
open PySem PySem.Spec PyProof.Rows L2
/-- a statement ends in I; from I the rest goes on -/
theorem seq_cut {a b : TS} {D : Ends} {σ : L2.St} {H : Hp} (I : L2.St → Hp → Prop) (hb : ∀ σ' H', I σ' H' → b D σ' H') (ha : ∀ F : L2.St → Hp → Prop, (∀ σ' H', I σ' H' → F σ' H') → a { D with nx := F } σ H) : tSeq a b D σ H := ha _ hb
theorem V_q {c : Nat} : decide (V.str ⟨#[c]⟩ = V.str ("\"" : Str)) = decide (c = 34) := by rw [show ("\"" : Str) = ⟨#[34]⟩ by decide +kernel, V_one]
theorem V_b {c : Nat} : decide (V.str ⟨#[c]⟩ = V.str (" " : Str)) = decide (c = 32) := by rw [one_bl, V_one]
end Z
namespace Z
open PySem PySem.Spec PyProof.Rows L2
theorem step_asgC {v : V} {i : Nat} {b : TS} {D : Ends} {σ : L2.St} {H : Hp} (h : b D (σ.set i (some v)) H) : tSeq (tAsg (tC v) (gName i)) b D σ H := h
end Z
namespace Z
open PySem PySem.Spec PyProof.Rows L2
theorem Keep.free {H H1 : Hp} {b s : Addr} (k : Keep [b] H H1) (n : b ≠ s) (h : H1 s = none) : H s = none := by
  cases e : H s with
  | none => rfl
  | some o =>
    have := k.one e n.symm
    rw [h] at this; cases this
theorem Keep.same2 {H H1 H2 : Hp} {S : List Addr} (k : Keep S H H1) (s : Same H1 H2) : Keep S H H2 := k.trans (Keep.of s)
end Z
namespace Z
open PySem PySem.Spec PyProof.Rows L2
theorem Keep.mix {S : List Addr} {H H1 H2 : Hp} {f : Addr} (k : Keep S H H1) (k2 : Keep [f] H1 H2) (hf : H f = none) : Keep S H H2 := fun c o e n => k2.one (k c o e n) (ne_of_none e hf)
end Z
namespace Z
open PySem PySem.Spec PyProof.Rows L2
theorem at_last {l : List Nat} {c : Nat} {r : List Nat} (e : l = c :: r) : atI l (-1) = some (l.getLastD 0) := by
  have h : l ≠ [] := by rw [e]; simp
  have q := atI_last (l.dropLast) (l.getLast h)
  rw [List.dropLast_concat_getLast h] at q
  rw [q, List.getLastD_eq_getLast?, List.getLast?_eq_some_getLast h]; rfl
end Z
namespace Z
theorem map_at {α β : Type} {f : α → β} {l : List α} {i : Nat} {v : β} (h : (l.map f)[i]? = some v) : ∃ w, l[i]? = some w ∧ v = f w := by
  rw [List.getElem?_map] at h
  cases q : l[i]? with
  | none => rw [q] at h; cases h
  | some w => rw [q] at h; exact ⟨w, rfl, (Option.some.inj h).symm⟩
end Z

set_option Elab.async false
set_option linter.all false
set_option maxRecDepth 100000
set_option maxHeartbeats 4000000
/-! tokens: plain functions over lists of codes -/
namespace Z
open PySem PySem.Spec PyProof.Rows L2
/-! ### signs -/
def LL : List Nat := ("abcdefghijklmnopqrstuvwxyzABCDEFGHIJKLMNOPQRSTUVWXYZ" : Str).cps.toList
def FF : List Nat := ("0123456789" : Str).cps.toList
def isL (c : Nat) : Bool := decide (c ∈ LL)
def isF (c : Nat) : Bool := decide (c ∈ FF)
def isLF (c : Nat) : Bool := isL c || isF c
theorem LF_mem (c : Nat) : isLF c = decide (c ∈ ("abcdefghijklmnopqrstuvwxyzABCDEFGHIJKLMNOPQRSTUVWXYZ0123456789" : Str).cps.toList) := by
  have e : ("abcdefghijklmnopqrstuvwxyzABCDEFGHIJKLMNOPQRSTUVWXYZ0123456789" : Str).cps.toList = LL ++ FF := by decide +kernel
  rw [e]
  unfold isLF isL isF
  simp only [List.mem_append, Bool.decide_or]
/-- how many letters and figures stand ahead -/
def wE (l : List Nat) : Nat := (l.takeWhile isLF).length
theorem wE_le (l : List Nat) : wE l ≤ l.length := by
  unfold wE
  exact List.IsPrefix.length_le (List.takeWhile_prefix _)
theorem wE_pos {c : Nat} {r : List Nat} (h : isLF c = true) : wE (c :: r) = wE r + 1 := by
  unfold wE
  rw [List.takeWhile_cons_of_pos h, List.length_cons]
theorem wE_neg {c : Nat} {r : List Nat} (h : ¬ isLF c = true) : wE (c :: r) = 0 := by
  unfold wE
  rw [List.takeWhile_cons_of_neg h]
  rfl
theorem wE_all {l : List Nat} : wE l = l.length ↔ l.all isLF = true := by
  induction l with
  | nil => simp [wE]
  | cons c r ih =>
    by_cases h : isLF c = true
    · rw [wE_pos h, List.length_cons, List.all_cons, h, Bool.true_and, ← ih]; omega
    · rw [wE_neg h, List.length_cons, List.all_cons, Bool.not_eq_true _ |>.mp h, Bool.false_and]
      constructor
      · intro e; omega
      · intro e; cases e
def prs : List (List Nat) := [[61, 61], [33, 61], [60, 61], [62, 61], [38, 38], [124, 124], [45, 62]]
/-- the place of the first quote -/
def qAt : List Nat → Option Nat
  | [] => none
  | c :: r => if c = 34 then some 0 else (qAt r).map (· + 1)
theorem qAt_none : ∀ {l : List Nat}, (∀ v, v < l.length → l.getD v 0 ≠ 34) → qAt l = none
  | [], _ => rfl
  | c :: r, h => by
    have h0 : c ≠ 34 := h 0 (by simp)
    unfold qAt
    rw [if_neg h0, qAt_none (l := r) fun v hv => by
      have := h (v + 1) (by simpa using hv)
      simpa using this]
    rfl
theorem qAt_some : ∀ {l : List Nat} {k : Nat}, k < l.length → l.getD k 0 = 34 → (∀ v, v < k → l.getD v 0 ≠ 34) → qAt l = some k
  | [], k, h, _, _ => by simp at h
  | c :: r, 0, _, e, _ => by
    have e' : c = 34 := by simpa using e
    unfold qAt
    rw [if_pos e']
  | c :: r, k + 1, h, e, n => by
    have h0 : c ≠ 34 := by simpa using n 0 (by omega)
    unfold qAt
    rw [if_neg h0, qAt_some (l := r) (k := k) (by simpa using h) (by simpa using e) fun v hv => by simpa using n (v + 1) (by omega)]
    rfl
theorem qAt_lt : ∀ {l : List Nat} {k : Nat}, qAt l = some k → k < l.length
  | [], k, h => by cases h
  | c :: r, k, h => by
    unfold qAt at h
    by_cases e : c = 34
    · rw [if_pos e] at h; cases h; simp
    · rw [if_neg e] at h
      cases q : qAt r with
      | none => rw [q] at h; cases h
      | some j =>
        rw [q] at h
        have : j + 1 = k := by simpa using h
        have := qAt_lt q
        simp only [List.length_cons]; omega
/-- how long the token is that begins the list -/
def tokLen : List Nat → Option Nat
  | [] => some 0
  | c :: r => if c = 34 then (qAt r).map (· + 2) else if isLF c = true then some (wE r + 1) else if (c :: r).take 2 ∈ prs then some 2 else some 1
theorem tokLen_cons (c : Nat) (r : List Nat) : tokLen (c :: r) = if c = 34 then (qAt r).map (· + 2) else if isLF c = true then some (wE r + 1) else if (c :: r).take 2 ∈ prs then some 2 else some 1 := rfl
def isTok (l : List Nat) : Bool := match l with
  | [] => false
  | c :: r => decide (c ≠ 32) && (decide (10 ∉ c :: r) && decide (tokLen (c :: r) = some (r.length + 1)))
/-- what the law's own look tells -/
def due (l : List Nat) : Bool := match l with
  | [] => false
  | c :: r => decide (10 ∉ c :: r) && (if isLF c = true then (c :: r).all isLF else if c = 34 then decide (r.length + 1 > 1) && (decide ((c :: r).count 34 = 2) && decide ((c :: r).getLastD 0 = 34)) else if r.length = 0 then decide (c ≠ 32) else decide (c :: r ∈ prs))
theorem prs_len {l : List Nat} (h : l ∈ prs) : l.length = 2 := by
  revert l; decide
theorem prs_blank {c : Nat} {r : List Nat} (h : c :: r ∈ prs) : c ≠ 32 := by
  intro e; subst e
  simp [prs] at h
theorem qAt_end : ∀ r : List Nat, qAt r = some (r.length - 1) ∧ r ≠ [] ↔ r.count 34 = 1 ∧ r.getLastD 0 = 34
  | [] => by simp
  | [c] => by
    by_cases e : c = 34
    · subst e; simp [qAt]
    · simp [qAt, e]
  | c :: d :: r => by
    have ih := qAt_end (d :: r)
    by_cases e : c = 34
    · subst e
      have h1 : qAt (34 :: d :: r) = some 0 := by unfold qAt; rw [if_pos rfl]
      rw [h1]
      simp only [List.length_cons, Option.some.injEq, ne_eq, reduceCtorEq, not_false_eq_true, and_true, List.count_cons_self]
      constructor
      · intro h; omega
      · rintro ⟨h2, h3⟩
        have h4 : List.count 34 (d :: r) = 0 := by omega
        have h5 : 34 ∉ d :: r := List.count_eq_zero.mp h4
        have h6 : (d :: r).getLastD 0 ∈ d :: r := by
          rw [List.getLastD_eq_getLast?, List.getLast?_eq_some_getLast (by simp)]
          exact List.getLast_mem _
        have h7 : (34 :: d :: r).getLastD 0 = (d :: r).getLastD 0 := by simp [List.getLastD]
        rw [← h7, h3] at h6
        exact absurd h6 h5
    · have h1 : qAt (c :: d :: r) = (qAt (d :: r)).map (· + 1) := by conv => lhs; unfold qAt; rw [if_neg e]
      have h7 : (c :: d :: r).getLastD 0 = (d :: r).getLastD 0 := by simp [List.getLastD]
      rw [h1, h7, List.count_cons_of_ne (Ne.symm (Ne.symm e)), ← ih]
      constructor
      · rintro ⟨h2, _⟩
        refine ⟨?_, by simp⟩
        cases q : qAt (d :: r) with
        | none => rw [q] at h2; cases h2
        | some k =>
          rw [q] at h2
          simp only [Option.map_some, Option.some.injEq, List.length_cons] at h2 ⊢
          omega
      · rintro ⟨h2, _⟩
        rw [h2]
        refine ⟨?_, by simp⟩
        simp only [Option.map_some, Option.some.injEq, List.length_cons]
        omega
theorem due_tok (l : List Nat) : isTok l = due l := by
  cases l with
  | nil => rfl
  | cons c r =>
    show (decide (c ≠ 32) && (decide (10 ∉ c :: r) && decide (tokLen (c :: r) = some (r.length + 1)))) = (decide (10 ∉ c :: r) && _)
    by_cases h10 : 10 ∉ c :: r
    · rw [decide_eq_true h10, Bool.true_and, Bool.true_and]
      by_cases hl : isLF c = true
      · have h32 : c ≠ 32 := by rintro rfl; revert hl; decide +kernel
        have h34 : c ≠ 34 := by rintro rfl; revert hl; decide +kernel
        rw [if_pos hl, decide_eq_true h32, Bool.true_and]
        have e : tokLen (c :: r) = some (wE r + 1) := by rw [tokLen_cons, if_neg h34, if_pos hl]
        rw [e, List.all_cons, hl, Bool.true_and]
        have q := wE_all (l := r)
        cases a : r.all isLF with
        | true => rw [q.mpr a]; simp
        | false =>
          refine decide_eq_false fun z => ?_
          have z2 : wE r = r.length := by simpa using z
          rw [q.mp z2] at a; cases a
      · rw [if_neg hl]
        by_cases h34 : c = 34
        · subst h34
          rw [if_pos rfl, decide_eq_true (by decide), Bool.true_and]
          have e : tokLen (34 :: r) = (qAt r).map (· + 2) := by rw [tokLen_cons, if_pos rfl]
          rw [e]
          have q := qAt_end r
          cases r with
          | nil => rfl
          | cons d s =>
            have h7 : (34 :: d :: s).getLastD 0 = (d :: s).getLastD 0 := by simp [List.getLastD]
            rw [h7, List.count_cons_self]
            have hp : decide ((d :: s).length + 1 > 1) = true := decide_eq_true (by simp)
            rw [hp, Bool.true_and, ← Bool.decide_and, decide_eq_decide]
            have q2 : (qAt (d :: s)).map (· + 2) = some ((d :: s).length + 1) ↔ qAt (d :: s) = some ((d :: s).length - 1) ∧ d :: s ≠ [] := by
              cases z : qAt (d :: s) with
              | none => simp
              | some k => simp only [Option.map_some, Option.some.injEq, List.length_cons, ne_eq, reduceCtorEq, not_false_eq_true, and_true]; omega
            rw [q2, q]
            constructor
            · rintro ⟨a, b⟩; exact ⟨by omega, b⟩
            · rintro ⟨a, b⟩; exact ⟨by omega, b⟩
        · rw [if_neg h34]
          have e : tokLen (c :: r) = if (c :: r).take 2 ∈ prs then some 2 else some 1 := by rw [tokLen_cons, if_neg h34, if_neg hl]
          rw [e]
          by_cases hp : (c :: r).take 2 ∈ prs
          · rw [if_pos hp]
            have hln := prs_len hp
            have hb : c ≠ 32 := by
              rw [List.take_succ_cons] at hp
              exact prs_blank hp
            rw [decide_eq_true hb, Bool.true_and]
            cases r with
            | nil => simp at hln
            | cons d s =>
              rw [if_neg (by simp)]
              cases s with
              | nil =>
                have hp' : [c, d] ∈ prs := hp
                rw [decide_eq_true hp']; rfl
              | cons x y =>
                have n1 : ¬ (c :: d :: x :: y) ∈ prs := fun z => by
                  have := prs_len z
                  simp at this
                rw [decide_eq_false n1]
                refine decide_eq_false fun z => ?_
                simp at z
          · rw [if_neg hp]
            cases r with
            | nil => simp
            | cons d s =>
              rw [if_neg (by simp)]
              have n1 : ¬ (c :: d :: s) ∈ prs := fun z => by
                have h2 := prs_len z
                have h3 : s = [] := by simpa using h2
                subst h3
                exact hp z
              rw [decide_eq_false n1]
              simp
    · rw [decide_eq_false h10, Bool.false_and, Bool.false_and, Bool.and_false]
end Z

set_option Elab.async false
set_option linter.all false
set_option maxRecDepth 100000
set_option maxHeartbeats 4000000
/-! == and != of data: flat values, lists, tuples, at any depth, any answer -/
namespace Z
open PySem PySem.Spec PyProof.Rows L2
def SeqE (E : V → V → Bool → Prop) (xs ys : List V) (b : Bool) : Prop :=
  ∃ e : Nat → Bool, (∀ j x y, xs[j]? = some x → ys[j]? = some y → E x y (e j)) ∧ b = ((List.range (min xs.length ys.length)).all e && decide (xs.length = ys.length))
def EqT (K : PySem.W.Frag) (H : Hp) (E : V → V → Bool → Prop) (x y : V) (b : Bool) : Prop :=
  (∃ a c xs ys, x = .ref a ∧ y = .ref c ∧ SqL K H a xs ∧ SqL K H c ys ∧ ((xs.length ≠ ys.length ∧ b = false) ∨ SeqE E xs ys b)) ∨
  (∃ a c xs ys, x = .ref a ∧ y = .ref c ∧ SqT K H a xs ∧ SqT K H c ys ∧ SeqE E xs ys b) ∨
  (∃ a c xs ys, x = .ref a ∧ y = .ref c ∧ SqL K H a xs ∧ SqT K H c ys ∧ b = false) ∨
  (∃ a c xs ys, x = .ref a ∧ y = .ref c ∧ SqT K H a xs ∧ SqL K H c ys ∧ b = false) ∨
  (∃ a xs, x = .ref a ∧ (SqL K H a xs ∨ SqT K H a xs) ∧ flatV y = true ∧ b = false) ∨
  (∃ c ys, y = .ref c ∧ (SqL K H c ys ∨ SqT K H c ys) ∧ flatV x = true ∧ b = false)
def EqW (K : PySem.W.Frag) (H : Hp) : Nat → V → V → Bool → Prop
  | 0 => fun x y b => (flatV x = true ∧ flatV y = true ∧ b = eqV x y) ∨ (∃ a, x = .ref a ∧ y = .ref a ∧ b = true)
  | n + 1 => fun x y b => (flatV x = true ∧ flatV y = true ∧ b = eqV x y) ∨ (∃ a, x = .ref a ∧ y = .ref a ∧ b = true) ∨ EqT K H (EqW K H n) x y b
theorem EqW.flat {K : PySem.W.Frag} {H : Hp} {n : Nat} {x y : V} (hx : flatV x = true) (hy : flatV y = true) : EqW K H n x y (eqV x y) := by
  cases n with
  | zero => exact .inl ⟨hx, hy, rfl⟩
  | succ n => exact .inl ⟨hx, hy, rfl⟩
theorem EqW.same {K : PySem.W.Frag} {H : Hp} {n : Nat} {a : Addr} : EqW K H n (.ref a) (.ref a) true := by
  cases n with
  | zero => exact .inr ⟨a, rfl, rfl, rfl⟩
  | succ n => exact .inr (.inl ⟨a, rfl, rfl, rfl⟩)
theorem eqV_self {x : V} (h : flatV x = true) : eqV x x = true := by
  cases x <;> first | rfl | (simp [eqV]; done) | (simp [flatV] at h)
section
variable {X : Cx} {pins : List (Addr × Obj)} {σ : L2.St} {H : Hp} {s : Shared}
theorem rc_flat {A : Around} {x y : V} {v u : Value} (hx : flatV x = true) (hy : flatV y = true) (rx : RelV x v) (ry : RelV y u) : SeqAt.RcAt A s v u (eqV x y) ∧ SeqAt.RcNeAt A s v u (!eqV x y) := by
  cases x with
  | non =>
    cases rx
    cases y with
    | non => cases ry; exact ⟨fun _ _ _ _ h => PySem.EqNone.eq_none_none h, .none_none⟩
    | bl b => cases ry; exact ⟨fun _ _ _ _ h => PySem.EqNone.eq_none_bool h, .none_bool b⟩
    | int j => obtain ⟨t, rfl⟩ := ry; exact ⟨fun _ _ _ _ h => PySem.EqNone.eq_none_int h, .none_int j t⟩
    | str j => obtain ⟨t, rfl⟩ := ry; exact ⟨fun _ _ _ _ h => PySem.EqNone.eq_none_str h, .none_str j t⟩
    | _ => cases hy
  | bl a =>
    cases rx
    cases y with
    | non => cases ry; exact ⟨fun _ _ _ _ h => PySem.EqNone.eq_bool_none h, .bool_none a⟩
    | bl b => cases ry; exact ⟨fun _ _ _ _ h => eq_bool h, .bool_bool a b⟩
    | int j => obtain ⟨t, rfl⟩ := ry; exact ⟨SeqAt.RcAt.bool_int a j t, .bool_int a j t⟩
    | str j => obtain ⟨t, rfl⟩ := ry; exact ⟨fun _ _ _ _ h => PySem.EqMixed.eq_bool_str h, .bool_str a j t⟩
    | _ => cases hy
  | int i =>
    obtain ⟨k, rfl⟩ := rx
    cases y with
    | non => cases ry; exact ⟨fun _ _ _ _ h => PySem.EqNone.eq_int_none h, .int_none i k⟩
    | bl b => cases ry; exact ⟨SeqAt.RcAt.int_bool i k b, .int_bool i k b⟩
    | int j => obtain ⟨t, rfl⟩ := ry; exact ⟨fun _ _ _ _ h => eq_int h, .int_int i k j t⟩
    | str j => obtain ⟨t, rfl⟩ := ry; exact ⟨fun _ _ _ _ h => PySem.EqMixed.eq_int_str h, .int_str i k j t⟩
    | _ => cases hy
  | str i =>
    obtain ⟨k, rfl⟩ := rx
    cases y with
    | non => cases ry; exact ⟨fun _ _ _ _ h => PySem.EqNone.eq_str_none h, .str_none i k⟩
    | bl b => cases ry; exact ⟨fun _ _ _ _ h => PySem.EqMixed.eq_str_bool h, .str_bool i k b⟩
    | int j => obtain ⟨t, rfl⟩ := ry; exact ⟨fun _ _ _ _ h => PySem.EqMixed.eq_str_int h, .str_int i k j t⟩
    | str j => obtain ⟨t, rfl⟩ := ry; exact ⟨fun _ _ _ _ h => eq_str h, .str_str i k j t⟩
    | _ => cases hy
  | _ => cases hx
theorem items_at {A : Around} {E : V → V → Bool → Prop} (ih : ∀ x y b v u, E x y b → RelV x v → RelV y u → SeqAt.EqAt A s v u b) {xs ys : List V} {us ws : List Value} (r1 : Vals xs us) (r2 : Vals ys ws) {e : Nat → Bool}
    (h : ∀ j x y, xs[j]? = some x → ys[j]? = some y → E x y (e j)) : ∀ j (h1 : j < us.toArray.size) (h2 : j < ws.toArray.size), SeqAt.EqAt A s us.toArray[j] ws.toArray[j] (e j) := fun j h1 h2 => by
  have l1 := r1.length
  have l2 := r2.length
  have k1 : j < xs.length := by simpa [l1] using h1
  have k2 : j < ys.length := by simpa [l2] using h2
  have g1 : xs[j]? = some xs[j] := List.getElem?_eq_getElem k1
  have g2 : ys[j]? = some ys[j] := List.getElem?_eq_getElem k2
  obtain ⟨u1, a1, b1⟩ := Vals.get r1 g1
  obtain ⟨u2, a2, b2⟩ := Vals.get r2 g2
  have h1' : j < us.length := by simpa using h1
  have h2' : j < ws.length := by simpa using h2
  have c1 : us.toArray[j] = u1 := by rw [List.getElem?_eq_getElem h1'] at a1; simpa using a1
  have c2 : ws.toArray[j] = u2 := by rw [List.getElem?_eq_getElem h2'] at a2; simpa using a2
  rw [c1, c2]
  exact ih _ _ _ _ _ (h j _ _ g1 g2) b1 b2
theorem isT {h : Heap} {a : Addr} {its : Array Value} (t : IsTup h a its) : h.IsTuple a its := t
theorem eqT_rc (I : Inv X pins σ H s) {A : Around} {E : V → V → Bool → Prop} (hu : A.units < cLine) (ih : ∀ x y b v u, E x y b → RelV x v → RelV y u → SeqAt.EqAt A.in1 s v u b) {x y : V} {b : Bool} {v u : Value}
    (h : EqT X.K H E x y b) (rx : RelV x v) (ry : RelV y u) : SeqAt.RcAt A s v u b ∧ SeqAt.RcNeAt A s v u (!b) := by
  rcases h with ⟨a, c, xs, ys, rfl, rfl, ha, hc, h⟩ | ⟨a, c, xs, ys, rfl, rfl, ha, hc, e, he, rfl⟩ | ⟨a, c, xs, ys, rfl, rfl, ha, hc, rfl⟩ | ⟨a, c, xs, ys, rfl, rfl, ha, hc, rfl⟩ | ⟨a, xs, rfl, ha, fy, rfl⟩ | ⟨c, ys, rfl, hc, fx, rfl⟩
  · cases (show v = Value.ref a from rx)
    cases (show u = Value.ref c from ry)
    obtain ⟨us, r1, p1, _⟩ := I.list ha
    obtain ⟨ws, r2, p2, _⟩ := I.list hc
    have l1 := r1.length
    have l2 := r2.length
    rcases h with ⟨hl, rfl⟩ | ⟨e, he, rfl⟩
    · have hsz : (us.toArray.size != ws.toArray.size) = true := by
        rw [bne_iff_ne, List.size_toArray, List.size_toArray, ← l1, ← l2]; exact hl
      exact ⟨.lists_lengths p1.isList p2.isList hsz hu, .lists_lengths p1.isList p2.isList hsz hu⟩
    · by_cases hl : xs.length = ys.length
      · have hsz : us.toArray.size = ws.toArray.size := by rw [List.size_toArray, List.size_toArray, ← l1, ← l2]; exact hl
        have q := items_at ih r1 r2 he
        have e1 : (List.range us.toArray.size).all e = ((List.range (min xs.length ys.length)).all e && decide (xs.length = ys.length)) := by
          rw [decide_eq_true hl, Bool.and_true, List.size_toArray, ← l1, Nat.min_eq_left (Nat.le_of_eq hl)]
        rw [← e1]
        exact ⟨.lists p1.isList p2.isList hsz hu q, .lists p1.isList p2.isList hsz hu q⟩
      · have hsz : (us.toArray.size != ws.toArray.size) = true := by
          rw [bne_iff_ne, List.size_toArray, List.size_toArray, ← l1, ← l2]; exact hl
        rw [decide_eq_false hl, Bool.and_false]
        exact ⟨.lists_lengths p1.isList p2.isList hsz hu, .lists_lengths p1.isList p2.isList hsz hu⟩
  · cases (show v = Value.ref a from rx)
    cases (show u = Value.ref c from ry)
    obtain ⟨us, r1, p1, _⟩ := I.tuple ha
    obtain ⟨ws, r2, p2, _⟩ := I.tuple hc
    have l1 := r1.length
    have l2 := r2.length
    have q := items_at ih r1 r2 he
    have e1 : ((List.range (min us.toArray.size ws.toArray.size)).all e && us.toArray.size == ws.toArray.size) = ((List.range (min xs.length ys.length)).all e && decide (xs.length = ys.length)) := by
      rw [List.size_toArray, List.size_toArray, ← l1, ← l2]
      rfl
    rw [← e1]
    exact ⟨.tuples (isT p1) (isT p2) hu q, .tuples (isT p1) (isT p2) hu q⟩
  · cases (show v = Value.ref a from rx)
    cases (show u = Value.ref c from ry)
    obtain ⟨us, r1, p1, _⟩ := I.list ha
    obtain ⟨ws, r2, p2, _⟩ := I.tuple hc
    exact ⟨.list_tuple p1.isList (isT p2) hu, .list_tuple p1.isList (isT p2) hu⟩
  · cases (show v = Value.ref a from rx)
    cases (show u = Value.ref c from ry)
    obtain ⟨us, r1, p1, _⟩ := I.tuple ha
    obtain ⟨ws, r2, p2, _⟩ := I.list hc
    exact ⟨.tuple_list (isT p1) p2.isList hu, .tuple_list (isT p1) p2.isList hu⟩
  · cases (show v = Value.ref a from rx)
    rcases ha with ha | ha
    · obtain ⟨us, r1, p1, _⟩ := I.list ha
      cases y with
      | non => cases ry; exact ⟨.list_none p1.isList hu, .list_none p1.isList hu⟩
      | bl b => cases ry; exact ⟨.list_bool b p1.isList hu, .list_bool b p1.isList hu⟩
      | int j => obtain ⟨t, rfl⟩ := ry; exact ⟨.list_int j t p1.isList hu, .list_int j t p1.isList hu⟩
      | str j => obtain ⟨t, rfl⟩ := ry; exact ⟨.list_str j t p1.isList hu, .list_str j t p1.isList hu⟩
      | _ => cases fy
    · obtain ⟨us, r1, p1, _⟩ := I.tuple ha
      cases y with
      | non => cases ry; exact ⟨.tuple_none (isT p1) hu, .tuple_none (isT p1) hu⟩
      | bl b => cases ry; exact ⟨.tuple_bool b (isT p1) hu, .tuple_bool b (isT p1) hu⟩
      | int j => obtain ⟨t, rfl⟩ := ry; exact ⟨.tuple_int j t (isT p1) hu, .tuple_int j t (isT p1) hu⟩
      | str j => obtain ⟨t, rfl⟩ := ry; exact ⟨.tuple_str j t (isT p1) hu, .tuple_str j t (isT p1) hu⟩
      | _ => cases fy
  · cases (show u = Value.ref c from ry)
    rcases hc with hc | hc
    · obtain ⟨us, r1, p1, _⟩ := I.list hc
      cases x with
      | non => cases rx; exact ⟨.none_list p1.isList hu, .none_list p1.isList hu⟩
      | bl b => cases rx; exact ⟨.bool_list b p1.isList hu, .bool_list b p1.isList hu⟩
      | int j => obtain ⟨t, rfl⟩ := rx; exact ⟨.int_list j t p1.isList hu, .int_list j t p1.isList hu⟩
      | str j => obtain ⟨t, rfl⟩ := rx; exact ⟨.str_list j t p1.isList hu, .str_list j t p1.isList hu⟩
      | _ => cases fx
    · obtain ⟨us, r1, p1, _⟩ := I.tuple hc
      cases x with
      | non => cases rx; exact ⟨.none_tuple (isT p1) hu, .none_tuple (isT p1) hu⟩
      | bl b => cases rx; exact ⟨.bool_tuple b (isT p1) hu, .bool_tuple b (isT p1) hu⟩
      | int j => obtain ⟨t, rfl⟩ := rx; exact ⟨.int_tuple j t (isT p1) hu, .int_tuple j t (isT p1) hu⟩
      | str j => obtain ⟨t, rfl⟩ := rx; exact ⟨.str_tuple j t (isT p1) hu, .str_tuple j t (isT p1) hu⟩
      | _ => cases fx
theorem at_of_rc {A : Around} {x y : V} {b : Bool} {v u : Value} (I : Inv X pins σ H s) (hu : A.units < cLine) {E : V → V → Bool → Prop} (ih : ∀ x y b v u, E x y b → RelV x v → RelV y u → SeqAt.EqAt A.in1 s v u b)
    (h : EqT X.K H E x y b) (hs : ∀ a, ¬ (x = .ref a ∧ y = .ref a)) (rx : RelV x v) (ry : RelV y u) : SeqAt.EqAt A s v u b := by
  have rc := (eqT_rc I hu ih h rx ry).1
  rcases h with ⟨a, c, _, _, rfl, rfl, _⟩ | ⟨a, c, _, _, rfl, rfl, _⟩ | ⟨a, c, _, _, rfl, rfl, _⟩ | ⟨a, c, _, _, rfl, rfl, _⟩ | ⟨a, _, rfl, ha, fy, rfl⟩ | ⟨c, _, rfl, hc, fx, rfl⟩
  · cases (show v = Value.ref a from rx)
    cases (show u = Value.ref c from ry)
    exact .of_refs (fun e => hs a ⟨rfl, by rw [e]⟩) rc
  · cases (show v = Value.ref a from rx)
    cases (show u = Value.ref c from ry)
    exact .of_refs (fun e => hs a ⟨rfl, by rw [e]⟩) rc
  · cases (show v = Value.ref a from rx)
    cases (show u = Value.ref c from ry)
    exact .of_refs (fun e => hs a ⟨rfl, by rw [e]⟩) rc
  · cases (show v = Value.ref a from rx)
    cases (show u = Value.ref c from ry)
    exact .of_refs (fun e => hs a ⟨rfl, by rw [e]⟩) rc
  · cases (show v = Value.ref a from rx)
    rcases ha with ha | ha
    · obtain ⟨us, r1, p1, _⟩ := I.list ha
      cases y with
      | non => cases ry; exact .list_none p1.isList hu
      | bl b => cases ry; exact .list_bool b p1.isList hu
      | int j => obtain ⟨t, rfl⟩ := ry; exact .list_int j t p1.isList hu
      | str j => obtain ⟨t, rfl⟩ := ry; exact .list_str j t p1.isList hu
      | _ => cases fy
    · obtain ⟨us, r1, p1, _⟩ := I.tuple ha
      cases y with
      | non => cases ry; exact .tuple_none (isT p1) hu
      | bl b => cases ry; exact .tuple_bool b (isT p1) hu
      | int j => obtain ⟨t, rfl⟩ := ry; exact .tuple_int j t (isT p1) hu
      | str j => obtain ⟨t, rfl⟩ := ry; exact .tuple_str j t (isT p1) hu
      | _ => cases fy
  · cases (show u = Value.ref c from ry)
    rcases hc with hc | hc
    · obtain ⟨us, r1, p1, _⟩ := I.list hc
      cases x with
      | non => cases rx; exact .none_list p1.isList hu
      | bl b => cases rx; exact .bool_list b p1.isList hu
      | int j => obtain ⟨t, rfl⟩ := rx; exact .int_list j t p1.isList hu
      | str j => obtain ⟨t, rfl⟩ := rx; exact .str_list j t p1.isList hu
      | _ => cases fx
    · obtain ⟨us, r1, p1, _⟩ := I.tuple hc
      cases x with
      | non => cases rx; exact .none_tuple (isT p1) hu
      | bl b => cases rx; exact .bool_tuple b (isT p1) hu
      | int j => obtain ⟨t, rfl⟩ := rx; exact .int_tuple j t (isT p1) hu
      | str j => obtain ⟨t, rfl⟩ := rx; exact .str_tuple j t (isT p1) hu
      | _ => cases fx
/-- a comparison of an object with itself within data is true: so must b be -/
theorem eqT_self (I : Inv X pins σ H s) {n : Nat} : ∀ {x : V} {b : Bool}, EqW X.K H n x x b → b = true := by
  induction n with
  | zero =>
    intro x b h
    rcases h with ⟨f, _, rfl⟩ | ⟨a, _, _, rfl⟩
    · exact eqV_self f
    · rfl
  | succ n ih =>
    intro x b h
    rcases h with ⟨f, _, rfl⟩ | ⟨a, _, _, rfl⟩ | h
    · exact eqV_self f
    · rfl
    · have seq : ∀ {xs ys : List V}, xs = ys → SeqE (EqW X.K H n) xs ys b → b = true := fun {xs ys} e q => by
        subst e
        obtain ⟨e, he, rfl⟩ := q
        rw [decide_eq_true rfl, Bool.and_true]
        refine List.all_eq_true.mpr fun j hj => ?_
        have hj' := List.mem_range.mp hj
        rw [Nat.min_self] at hj'
        exact ih (he j _ _ (List.getElem?_eq_getElem hj') (List.getElem?_eq_getElem hj'))
      rcases h with ⟨a, c, xs, ys, e1, e2, ha, hc, h⟩ | ⟨a, c, xs, ys, e1, e2, ha, hc, h⟩ | ⟨a, c, xs, ys, e1, e2, ha, hc, h⟩ | ⟨a, c, xs, ys, e1, e2, ha, hc, h⟩ | ⟨a, _, rfl, _, fy, _⟩ | ⟨c, _, rfl, _, fx, _⟩
      · rw [e1] at e2; cases e2
        have e := I.list_inj ha hc
        rcases h with ⟨hl, _⟩ | h
        · exact absurd (congrArg List.length e) hl
        · exact seq e h
      · rw [e1] at e2; cases e2
        exact seq (I.tuple_inj ha hc) h
      · rw [e1] at e2; cases e2
        obtain ⟨us, r1, p1, _⟩ := I.list ha
        obtain ⟨ws, r2, p2, _⟩ := I.tuple hc
        exact absurd rfl (SeqAt.ne_of_list_tuple p1.isList (isT p2))
      · rw [e1] at e2; cases e2
        obtain ⟨us, r1, p1, _⟩ := I.tuple ha
        obtain ⟨ws, r2, p2, _⟩ := I.list hc
        exact absurd rfl (SeqAt.ne_of_list_tuple p2.isList (isT p1))
      · cases fy
      · cases fx
theorem eqW_run (I : Inv X pins σ H s) : ∀ (n : Nat) (A : Around), A.units + n < cLine → ∀ (x y : V) (b : Bool) (v u : Value), EqW X.K H n x y b → RelV x v → RelV y u → SeqAt.EqAt A s v u b
  | 0, A, hu, x, y, b, v, u, h, rx, ry => by
    rcases h with ⟨f1, f2, rfl⟩ | ⟨a, rfl, rfl, rfl⟩
    · exact eqAt_V rx ry f1 f2
    · cases (show v = Value.ref a from rx)
      cases (show u = Value.ref a from ry)
      exact .same _
  | n + 1, A, hu, x, y, b, v, u, h, rx, ry => by
    rcases id h with ⟨f1, f2, rfl⟩ | ⟨a, rfl, rfl, rfl⟩ | h2
    · exact eqAt_V rx ry f1 f2
    · cases (show v = Value.ref a from rx)
      cases (show u = Value.ref a from ry)
      exact .same _
    · by_cases hs : ∃ a, x = .ref a ∧ y = .ref a
      · obtain ⟨a, rfl, rfl⟩ := hs
        cases (show v = Value.ref a from rx)
        cases (show u = Value.ref a from ry)
        rw [eqT_self I h]
        exact .same _
      · exact at_of_rc I (by omega) (eqW_run I n A.in1 (by show A.units + 1 + n < cLine; omega)) h2 (fun a q => hs ⟨a, q⟩) rx ry
/-- the two answers at the top: not an object with itself taken for granted -/
def rEqW (K : PySem.W.Frag) (neg : Bool) : R2 := fun x y H Q => ∃ n b, n ≤ 60 ∧ ((flatV x = true ∧ flatV y = true ∧ b = eqV x y) ∨ EqT K H (EqW K H n) x y b) ∧ Q (.bl (if neg = true then !b else b)) H
theorem op_eqW (hu : X.A.units + 64 < cLine) : OpR X (compareOp .Eq) (rEqW X.K false) := by
  intro pins s σ H x y v u Q I rx ry h
  obtain ⟨n, b, hn, h, q⟩ := h
  have rc : SeqAt.RcAt X.A s v u b := by
    rcases h with ⟨f1, f2, rfl⟩ | h
    · exact (rc_flat f1 f2 rx ry).1
    · exact (eqT_rc I (by omega) (eqW_run I n X.A.in1 (by show X.A.units + 1 + n < cLine; omega)) h rx ry).1
  exact rc _ _ _ _ ⟨.bl b, H, I, rfl, q⟩
theorem op_neW (hu : X.A.units + 64 < cLine) : OpR X (compareOp .NotEq) (rEqW X.K true) := by
  intro pins s σ H x y v u Q I rx ry h
  obtain ⟨n, b, hn, h, q⟩ := h
  have rc : SeqAt.RcNeAt X.A s v u (!b) := by
    rcases h with ⟨f1, f2, rfl⟩ | h
    · exact (rc_flat f1 f2 rx ry).2
    · exact (eqT_rc I (by omega) (eqW_run I n X.A.in1 (by show X.A.units + 1 + n < cLine; omega)) h rx ry).2
  exact rc _ _ _ _ ⟨.bl (!b), H, I, rfl, q⟩
end
end Z
namespace Z
open PySem PySem.Spec PyProof.Rows L2
theorem seqE_self {K : PySem.W.Frag} {H : Hp} {n : Nat} (xs : List V) (h : xs.all flatV = true) : SeqE (EqW K H n) xs xs true :=
  ⟨fun _ => true, fun j x y e1 e2 => by
    rw [e1] at e2; cases e2
    have f := List.all_eq_true.mp h x (List.mem_of_getElem? e1)
    have q := EqW.flat (K := K) (H := H) (n := n) f f
    rwa [eqV_self f] at q, by rw [decide_eq_true rfl, Bool.and_true]; exact (List.all_eq_true.mpr fun _ _ => rfl).symm⟩
end Z

set_option Elab.async false
set_option linter.all false
set_option maxRecDepth 100000
set_option maxHeartbeats 4000000
namespace Z
open PySem PySem.Spec PyProof.Rows L2
/-! ### a row read into tokens with columns -/
abbrev Tk := List Nat × Nat
def cat (acc : List Tk) : Except Nat (List Tk) → Except Nat (List Tk)
  | .ok t => .ok (acc ++ t)
  | .error e => .error e
theorem cat_cat (a b : List Tk) (r : Except Nat (List Tk)) : cat a (cat b r) = cat (a ++ b) r := by
  cases r <;> simp [cat]
theorem cat_nil (r : Except Nat (List Tk)) : cat [] r = r := by cases r <;> rfl
def lex : Nat → Nat → List Nat → Except Nat (List Tk)
  | 0, _, _ => .ok []
  | _ + 1, _, [] => .ok []
  | f + 1, a, c :: r => if c = 32 then lex f (a + 1) r else
    match tokLen (c :: r) with
    | none => .error a
    | some n => cat [((c :: r).take n, a)] (lex f (a + n) ((c :: r).drop n))
def lexOf (a : Nat) (l : List Nat) : Except Nat (List Tk) := lex l.length a l
theorem tokLen_le {c : Nat} {r : List Nat} {n : Nat} (h : tokLen (c :: r) = some n) : 1 ≤ n ∧ n ≤ r.length + 1 := by
  rw [tokLen_cons] at h
  split at h
  · cases q : qAt r with
    | none => rw [q] at h; cases h
    | some k =>
      rw [q] at h
      cases h
      have := qAt_lt q
      show 1 ≤ k + 2 ∧ k + 2 ≤ r.length + 1
      omega
  · split at h
    · cases h
      have := wE_le r
      omega
    · split at h
      · rename_i p
        cases h
        have := prs_len p
        rw [List.length_take, List.length_cons] at this
        omega
      · cases h; omega
theorem lex_fuel : ∀ (f : Nat) (a : Nat) (l : List Nat), l.length ≤ f → lex f a l = lexOf a l := by
  intro f
  induction f using Nat.strongRecOn with
  | ind f ih =>
    intro a l h
    cases l with
    | nil => cases f <;> rfl
    | cons c r =>
      cases f with
      | zero => simp at h
      | succ f =>
        have hr : r.length ≤ f := by simpa using h
        show lex (f + 1) a (c :: r) = lex (r.length + 1) a (c :: r)
        unfold lex
        split
        · rw [ih f (by omega) (a + 1) r hr]; rfl
        · cases q : tokLen (c :: r) with
          | none => rfl
          | some n =>
            have hb := tokLen_le q
            have hd : ((c :: r).drop n).length ≤ r.length := by rw [List.length_drop, List.length_cons]; omega
            dsimp only
            rw [ih f (by omega) _ _ (by omega)]
            by_cases e : r.length = f
            · subst e; rw [ih _ (by omega) _ _ hd]
            · rw [ih r.length (by omega) _ _ hd]
theorem lexOf_nil (a : Nat) : lexOf a [] = .ok [] := rfl
theorem lexOf_bl (a : Nat) (r : List Nat) : lexOf a (32 :: r) = lexOf (a + 1) r := by
  show lex (r.length + 1) a (32 :: r) = _
  unfold lex
  rw [if_pos rfl]; rfl
theorem lexOf_none {a c : Nat} {r : List Nat} (h : c ≠ 32) (q : tokLen (c :: r) = none) : lexOf a (c :: r) = .error a := by
  show lex (r.length + 1) a (c :: r) = _
  unfold lex
  rw [if_neg h, q]
theorem lexOf_some {a c n : Nat} {r : List Nat} (h : c ≠ 32) (q : tokLen (c :: r) = some n) : lexOf a (c :: r) = cat [((c :: r).take n, a)] (lexOf (a + n) ((c :: r).drop n)) := by
  show lex (r.length + 1) a (c :: r) = _
  unfold lex
  rw [if_neg h, q]
  dsimp only
  have hb := tokLen_le q
  rw [lex_fuel _ _ _ (by rw [List.length_drop, List.length_cons]; omega)]
/-! ### closed rows -/
theorem qAt_cnt : ∀ {r : List Nat} {k : Nat}, qAt r = some k → r.count 34 = 1 + (r.drop (k + 1)).count 34
  | [], k, h => by cases h
  | c :: r, k, h => by
    unfold qAt at h
    split at h
    · rename_i e
      cases h
      subst e
      simp; omega
    · rename_i e
      cases q : qAt r with
      | none => rw [q] at h; cases h
      | some j =>
        rw [q] at h
        cases h
        have ih := qAt_cnt q
        rw [List.count_cons_of_ne (by exact e), ih]
        rfl
theorem qAt_no : ∀ {r : List Nat}, qAt r = none → r.count 34 = 0
  | [], _ => rfl
  | c :: r, h => by
    unfold qAt at h
    split at h
    · cases h
    · rename_i e
      cases q : qAt r with
      | none => rw [List.count_cons_of_ne (by exact e)]; exact qAt_no q
      | some j => rw [q] at h; cases h
theorem isLF_ne {c : Nat} (h : isLF c = true) : c ≠ 34 := by
  intro e; subst e; revert h; decide +kernel
theorem wE_cnt : ∀ (r : List Nat), (r.drop (wE r)).count 34 = r.count 34
  | [] => rfl
  | c :: r => by
    by_cases h : isLF c = true
    · rw [wE_pos h, List.count_cons_of_ne (isLF_ne h)]
      exact wE_cnt r
    · rw [wE_neg h]; rfl
theorem prs_cnt {l : List Nat} (h : l ∈ prs) : l.count 34 = 0 := by
  unfold prs at h
  simp only [List.mem_cons, List.not_mem_nil, or_false] at h
  rcases h with rfl | rfl | rfl | rfl | rfl | rfl | rfl <;> decide
theorem tok_cnt {c n : Nat} {r : List Nat} (q : tokLen (c :: r) = some n) : ((c :: r).drop n).count 34 % 2 = (c :: r).count 34 % 2 := by
  rw [tokLen_cons] at q
  split at q
  · rename_i e
    cases z : qAt r with
    | none => rw [z] at q; cases q
    | some k =>
      rw [z] at q
      cases q
      subst e
      rw [List.count_cons_self, qAt_cnt z]
      show (r.drop (k + 1)).count 34 % 2 = _
      omega
  · rename_i e
    split at q
    · cases q
      show (r.drop (wE r)).count 34 % 2 = _
      rw [wE_cnt, List.count_cons_of_ne e]
    · split at q
      · rename_i p
        cases q
        have h0 := prs_cnt p
        have h1 : (c :: r).count 34 = ((c :: r).take 2).count 34 + ((c :: r).drop 2).count 34 := by
          rw [← List.count_append, List.take_append_drop]
        omega
      · cases q
        rw [List.count_cons_of_ne e]; rfl
theorem lex_closed : ∀ (m : Nat) (a : Nat) (l : List Nat), l.length ≤ m → l.count 34 % 2 = 0 → ∃ t, lexOf a l = .ok t := by
  intro m
  induction m with
  | zero =>
    intro a l h _
    have e : l = [] := List.eq_nil_of_length_eq_zero (by omega)
    subst e
    exact ⟨[], rfl⟩
  | succ m ih =>
    intro a l h hc
    cases l with
    | nil => exact ⟨[], rfl⟩
    | cons c r =>
      have hr : r.length ≤ m := by simpa using h
      by_cases e : c = 32
      · subst e
        rw [lexOf_bl]
        exact ih _ _ hr (by rwa [List.count_cons_of_ne (by decide)] at hc)
      · cases q : tokLen (c :: r) with
        | none =>
          exfalso
          rw [tokLen_cons] at q
          split at q
          · rename_i e2
            cases z : qAt r with
            | none =>
              have := qAt_no z
              subst e2
              rw [List.count_cons_self] at hc
              omega
            | some k => rw [z] at q; cases q
          · split at q
            · cases q
            · split at q <;> cases q
        | some n =>
          have hb := tokLen_le q
          rw [lexOf_some e q]
          obtain ⟨t, ht⟩ := ih (a + n) ((c :: r).drop n) (by rw [List.length_drop, List.length_cons]; omega) (by rw [tok_cnt q]; exact hc)
          exact ⟨_, by rw [ht]; rfl⟩
/-- a row with as many quotes as close one another is read -/
theorem lex_ok {l : List Nat} (h : l.count 34 % 2 = 0) (a : Nat) : ∃ t, lexOf a l = .ok t := lex_closed _ _ _ (Nat.le_refl _) h
end Z
namespace Z
open PySem PySem.Spec PyProof.Rows L2
theorem cat_ok {acc t : List Tk} {r : Except Nat (List Tk)} (h : cat acc r = .ok t) : ∃ u, r = .ok u ∧ t = acc ++ u := by
  cases r with
  | error e => cases h
  | ok u => exact ⟨u, rfl, (Except.ok.inj h).symm⟩
theorem lex_all (P : Tk → Prop) (h1 : ∀ a c r n, c ≠ 32 → tokLen (c :: r) = some n → P ((c :: r).take n, a)) : ∀ (m : Nat) (a : Nat) (l : List Nat) (t : List Tk), l.length ≤ m → lexOf a l = .ok t → ∀ x ∈ t, P x := by
  intro m
  induction m with
  | zero =>
    intro a l t h e
    have q : l = [] := List.eq_nil_of_length_eq_zero (by omega)
    subst q
    cases e
    simp
  | succ m ih =>
    intro a l t h e
    cases l with
    | nil => cases e; simp
    | cons c r =>
      have hr : r.length ≤ m := by simpa using h
      by_cases z : c = 32
      · subst z
        rw [lexOf_bl] at e
        exact ih _ _ _ hr e
      · cases q : tokLen (c :: r) with
        | none => rw [lexOf_none z q] at e; cases e
        | some n =>
          rw [lexOf_some z q] at e
          obtain ⟨u, e1, e2⟩ := cat_ok e
          subst e2
          have hb := tokLen_le q
          intro x hx
          rcases List.mem_append.mp hx with h2 | h2
          · rw [List.mem_singleton] at h2
            subst h2
            exact h1 a c r n z q
          · exact ih _ _ _ (by rw [List.length_drop, List.length_cons]; omega) e1 x h2
theorem lex_pos {a : Nat} {l : List Nat} {t : List Tk} (h : lexOf a l = .ok t) : ∀ x ∈ t, x.1 ≠ [] :=
  lex_all (fun x => x.1 ≠ []) (fun a c r n _ q => by
    have hb := tokLen_le q
    intro e
    have := congrArg List.length e
    rw [List.length_take, List.length_cons, List.length_nil] at this
    omega) _ _ _ _ (Nat.le_refl _) h
end Z
namespace Z
open PySem PySem.Spec PyProof.Rows L2
theorem lex_bound : ∀ (m : Nat) (a : Nat) (l : List Nat) (t : List Tk), l.length ≤ m → lexOf a l = .ok t → t.length ≤ l.length ∧ ∀ x ∈ t, a ≤ x.2 ∧ x.2 + x.1.length ≤ a + l.length := by
  intro m
  induction m with
  | zero =>
    intro a l t h e
    have q : l = [] := List.eq_nil_of_length_eq_zero (by omega)
    subst q
    cases e
    simp
  | succ m ih =>
    intro a l t h e
    cases l with
    | nil => cases e; simp
    | cons c r =>
      have hr : r.length ≤ m := by simpa using h
      by_cases z : c = 32
      · subst z
        rw [lexOf_bl] at e
        obtain ⟨i1, i2⟩ := ih _ _ _ hr e
        refine ⟨by rw [List.length_cons]; omega, fun x hx => ?_⟩
        have := i2 x hx
        rw [List.length_cons]; omega
      · cases q : tokLen (c :: r) with
        | none => rw [lexOf_none z q] at e; cases e
        | some n =>
          rw [lexOf_some z q] at e
          obtain ⟨u, e1, e2⟩ := cat_ok e
          subst e2
          have hb := tokLen_le q
          obtain ⟨i1, i2⟩ := ih _ _ _ (by rw [List.length_drop, List.length_cons]; omega) e1
          rw [List.length_drop, List.length_cons] at i1
          refine ⟨by rw [List.length_append, List.length_cons]; rw [List.length_cons]; show 1 + u.length ≤ _; omega, fun x hx => ?_⟩
          rcases List.mem_append.mp hx with h2 | h2
          · rw [List.mem_singleton] at h2
            subst h2
            show a ≤ a ∧ a + ((c :: r).take n).length ≤ a + (r.length + 1)
            rw [List.length_take, List.length_cons]; omega
          · have := i2 x h2
            rw [List.length_drop, List.length_cons] at this
            rw [List.length_cons]; omega
theorem lex_len {a : Nat} {l : List Nat} {t : List Tk} (h : lexOf a l = .ok t) : t.length ≤ l.length ∧ ∀ x ∈ t, a ≤ x.2 ∧ x.2 + x.1.length ≤ a + l.length := lex_bound _ _ _ _ (Nat.le_refl _) h
end Z

set_option Elab.async false
set_option linter.all false
set_option maxRecDepth 100000
set_option maxHeartbeats 4000000
namespace Z
open PySem PySem.Spec PyProof.Rows L2
/-! ### pieces -/
structure Sg where
  page : Str
  row : Int
  col : Int
  way : List Str
deriving DecidableEq
structure Pc where
  text : Str
  signs : List Sg
  paint : List Str
deriving DecidableEq
def txts (l : List Str) : List V := l.map V.str
def SgAt (K : PySem.W.Frag) (H : Hp) (v : V) (s : Sg) : Prop := ∃ a w, v = .ref a ∧ SqT K H a [.str s.page, .int s.row, .int s.col, .ref w] ∧ SqT K H w (txts s.way)
def SgsAt (K : PySem.W.Frag) (H : Hp) (a : Addr) (l : List Sg) : Prop := ∃ vs, SqT K H a vs ∧ Paired (SgAt K H) vs l
def PcF (z : Str) (sa pa : Addr) : List (Str × V) := [("text", .str z), ("signs", .ref sa), ("paint", .ref pa)]
def PcAt (K : PySem.W.Frag) (H : Hp) (v : V) (p : Pc) : Prop := ∃ a dx sa pa, v = .ref a ∧ H a = some (.ins (He.ga K "Piece") dx (PcF p.text sa pa)) ∧ SgsAt K H sa p.signs ∧ SqT K H pa (txts p.paint)
def PcsL (K : PySem.W.Frag) (H : Hp) (a : Addr) (l : List Pc) : Prop := ∃ vs, SqL K H a vs ∧ Paired (PcAt K H) vs l
theorem Stay.sqT {K : PySem.W.Frag} {H H' : Hp} (s : Stay H H') {a : Addr} {xs : List V} (h : SqT K H a xs) : SqT K H' a xs := by
  rcases h with h | h
  · rcases h with h | ⟨o, h⟩
    · exact .inl (.inl (s _ _ h rfl))
    · exact .inl (.inr ⟨o, s _ _ h rfl⟩)
  · exact .inr h
theorem SgAt.stay {K : PySem.W.Frag} {H H' : Hp} {v : V} {g : Sg} (h : SgAt K H v g) (s : Stay H H') : SgAt K H' v g := by
  obtain ⟨a, w, e, h1, h2⟩ := h
  exact ⟨a, w, e, s.sqT h1, s.sqT h2⟩
theorem SgsAt.stay {K : PySem.W.Frag} {H H' : Hp} {a : Addr} {l : List Sg} (h : SgsAt K H a l) (s : Stay H H') : SgsAt K H' a l := by
  obtain ⟨vs, h1, h2⟩ := h
  exact ⟨vs, s.sqT h1, L2.Paired.mapP h2 fun _ _ q => q.stay s⟩
theorem PcAt.stay {K : PySem.W.Frag} {H H' : Hp} {v : V} {p : Pc} (h : PcAt K H v p) (s : Stay H H') : PcAt K H' v p := by
  obtain ⟨a, dx, sa, pa, e, h1, h2, h3⟩ := h
  exact ⟨a, dx, sa, pa, e, s _ _ h1 rfl, h2.stay s, s.sqT h3⟩
theorem pcs_stay {K : PySem.W.Frag} {H H' : Hp} {vs : List V} {l : List Pc} (h : Paired (PcAt K H) vs l) (s : Stay H H') : Paired (PcAt K H') vs l := L2.Paired.mapP h fun _ _ q => q.stay s
theorem pSnoc {α β : Type} {F : α → β → Prop} {a : α} {b : β} (h : F a b) : ∀ {l : List α} {m : List β}, Paired F l m → Paired F (l ++ [a]) (m ++ [b])
  | _, _, .nil => .cons h .nil
  | _, _, .cons x r => .cons x (pSnoc h r)
theorem pApp {α β : Type} {F : α → β → Prop} {l2 : List α} {m2 : List β} (h : Paired F l2 m2) : ∀ {l : List α} {m : List β}, Paired F l m → Paired F (l ++ l2) (m ++ m2)
  | _, _, .nil => h
  | _, _, .cons x r => .cons x (pApp h r)
theorem pAt {α β : Type} {F : α → β → Prop} : ∀ {l : List α} {m : List β} {i : Nat} {a : α}, Paired F l m → l[i]? = some a → ∃ b, m[i]? = some b ∧ F a b
  | _, _, i, a, .nil, h => by simp at h
  | _, _, 0, a, .cons x r, h => by
    have e := Option.some.inj h
    subst e
    exact ⟨_, rfl, x⟩
  | _, _, i + 1, a, .cons x r, h => pAt r (i := i) h
theorem pLen {α β : Type} {F : α → β → Prop} {l : List α} {m : List β} (h : Paired F l m) : l.length = m.length := Paired.length h
/-- a token's piece as read -/
def pcOf (page : Str) (number : Int) (t : Tk) : Pc := ⟨⟨t.1.toArray⟩, (List.range t.1.length).map fun k => ⟨page, number, (t.2 + k : Nat), []⟩, []⟩
/-! ### equal or not -/
theorem seqE_nil {E : V → V → Bool → Prop} : SeqE E [] [] true := ⟨fun _ => true, fun j x y h => by simp at h, rfl⟩
theorem seqE_nc {E : V → V → Bool → Prop} {y : V} {ys : List V} : SeqE E [] (y :: ys) false := ⟨fun _ => true, fun j x y h => by simp at h, by simp⟩
theorem seqE_cn {E : V → V → Bool → Prop} {x : V} {xs : List V} : SeqE E (x :: xs) [] false := ⟨fun _ => true, fun j x y _ h => by simp at h, by simp⟩
theorem seqE_cons {E : V → V → Bool → Prop} {x y : V} {xs ys : List V} {b c : Bool} (h : E x y b) (t : SeqE E xs ys c) : SeqE E (x :: xs) (y :: ys) (b && c) := by
  obtain ⟨e, h1, h2⟩ := t
  refine ⟨fun j => match j with | 0 => b | j + 1 => e j, fun j u v hu hv => ?_, ?_⟩
  · cases j with
    | zero =>
      have e1 : x = u := Option.some.inj hu
      have e2 : y = v := Option.some.inj hv
      subst e1 e2
      exact h
    | succ j => exact h1 j u v hu hv
  · subst h2
    have hm : min (x :: xs).length (y :: ys).length = min xs.length ys.length + 1 := by simp only [List.length_cons]; omega
    rw [hm, List.range_succ_eq_map, List.all_cons, List.all_map]
    have hd : decide ((x :: xs).length = (y :: ys).length) = decide (xs.length = ys.length) := by rw [decide_eq_decide]; simp
    rw [hd, Bool.and_assoc]
    rfl
theorem seqE_dec {α : Type} [DecidableEq α] {E : V → V → Bool → Prop} {R R' : V → α → Prop} (hE : ∀ x y a b, R x a → R' y b → E x y (decide (a = b))) : ∀ {xs ys : List V} {l m : List α}, Paired R xs l → Paired R' ys m → SeqE E xs ys (decide (l = m))
  | _, _, _, _, .nil, .nil => seqE_nil
  | _, _, _, _, .nil, .cons y r => seqE_nc
  | _, _, _, _, .cons x r, .nil => seqE_cn
  | _ :: _, _ :: _, a :: l, b :: m, .cons x r, .cons y q => by
    have h := seqE_cons (hE _ _ _ _ x y) (seqE_dec hE r q)
    have e : decide (a :: l = b :: m) = (decide (a = b) && decide (l = m)) := by
      rw [← Bool.decide_and, decide_eq_decide, List.cons.injEq]
    rw [e]; exact h
theorem paired_txt : ∀ (l : List Str), Paired (fun v a => v = V.str a) (txts l) l
  | [] => .nil
  | a :: l => .cons rfl (paired_txt l)
theorem eqV_str (a b : Str) : eqV (.str a) (.str b) = decide (a = b) := by
  show (a == b) = _
  by_cases h : a = b <;> simp [h]
theorem eqV_int (a b : Int) : eqV (.int a) (.int b) = decide (a = b) := by
  show (a == b) = _
  by_cases h : a = b <;> simp [h]
theorem eqW_str {K : PySem.W.Frag} {H : Hp} {n : Nat} {a b : Str} : EqW K H n (.str a) (.str b) (decide (a = b)) := by
  rw [← eqV_str]; exact EqW.flat rfl rfl
theorem eqW_int {K : PySem.W.Frag} {H : Hp} {n : Nat} {a b : Int} : EqW K H n (.int a) (.int b) (decide (a = b)) := by
  rw [← eqV_int]; exact EqW.flat rfl rfl
theorem seqE_txt {K : PySem.W.Frag} {H : Hp} {n : Nat} (a b : List Str) : SeqE (EqW K H n) (txts a) (txts b) (decide (a = b)) :=
  seqE_dec (R := fun v a => v = V.str a) (R' := fun v a => v = V.str a) (fun x y a b h1 h2 => by subst h1 h2; exact eqW_str) (paired_txt a) (paired_txt b)
theorem eqW_tup {K : PySem.W.Frag} {H : Hp} {n : Nat} {a c : Addr} {xs ys : List V} {b : Bool} (h1 : SqT K H a xs) (h2 : SqT K H c ys) (h : SeqE (EqW K H n) xs ys b) : EqW K H (n + 1) (.ref a) (.ref c) b :=
  .inr (.inr (.inr (.inl ⟨a, c, xs, ys, rfl, rfl, h1, h2, h⟩)))
theorem eqW_lst {K : PySem.W.Frag} {H : Hp} {n : Nat} {a c : Addr} {xs ys : List V} {b : Bool} (h1 : SqL K H a xs) (h2 : SqL K H c ys) (h : SeqE (EqW K H n) xs ys b) : EqW K H (n + 1) (.ref a) (.ref c) b :=
  .inr (.inr (.inl ⟨a, c, xs, ys, rfl, rfl, h1, h2, .inr h⟩))
theorem eqW_txts {K : PySem.W.Frag} {H : Hp} {n : Nat} {a c : Addr} {l m : List Str} (h1 : SqT K H a (txts l)) (h2 : SqT K H c (txts m)) : EqW K H (n + 1) (.ref a) (.ref c) (decide (l = m)) := eqW_tup h1 h2 (seqE_txt l m)
theorem eqW_sg {K : PySem.W.Frag} {H : Hp} {n : Nat} {x y : V} {s t : Sg} (h1 : SgAt K H x s) (h2 : SgAt K H y t) : EqW K H (n + 2) x y (decide (s = t)) := by
  obtain ⟨a, w, rfl, a1, a2⟩ := h1
  obtain ⟨b, u, rfl, b1, b2⟩ := h2
  have q := eqW_tup (n := n + 1) a1 b1 (seqE_cons eqW_str (seqE_cons eqW_int (seqE_cons eqW_int (seqE_cons (eqW_txts a2 b2) seqE_nil))))
  have e : decide (s = t) = (decide (s.page = t.page) && (decide (s.row = t.row) && (decide (s.col = t.col) && (decide (s.way = t.way) && true)))) := by
    obtain ⟨s1, s2, s3, s4⟩ := s
    obtain ⟨t1, t2, t3, t4⟩ := t
    rw [Bool.and_true, ← Bool.decide_and, ← Bool.decide_and, ← Bool.decide_and, decide_eq_decide, Sg.mk.injEq]
  rw [e]; exact q
theorem eqW_sgs {K : PySem.W.Frag} {H : Hp} {n : Nat} {a c : Addr} {l m : List Sg} (h1 : SgsAt K H a l) (h2 : SgsAt K H c m) : EqW K H (n + 3) (.ref a) (.ref c) (decide (l = m)) := by
  obtain ⟨xs, x1, x2⟩ := h1
  obtain ⟨ys, y1, y2⟩ := h2
  exact eqW_tup x1 y1 (seqE_dec (E := EqW K H (n + 2)) (R := SgAt K H) (R' := SgAt K H) (fun _ _ _ _ p q => eqW_sg p q) x2 y2)
end Z
namespace Z
open PySem PySem.Spec PyProof.Rows L2
theorem eqW_sgs_self {K : PySem.W.Frag} {H : Hp} {n : Nat} {a c : Addr} {l : List Sg} (h1 : SgsAt K H a l) (h2 : SgsAt K H c l) : EqW K H (n + 3) (.ref a) (.ref c) true := by
  have q := eqW_sgs (n := n) h1 h2
  rwa [decide_eq_true rfl] at q
theorem eqW_txts_self {K : PySem.W.Frag} {H : Hp} {n : Nat} {a c : Addr} {l : List Str} (h1 : SqT K H a (txts l)) (h2 : SqT K H c (txts l)) : EqW K H (n + 1) (.ref a) (.ref c) true := by
  have q := eqW_txts (n := n) h1 h2
  rwa [decide_eq_true rfl] at q
end Z
namespace Z
open PySem PySem.Spec PyProof.Rows L2
/-! ### at the top of a comparison -/
abbrev TopE (K : PySem.W.Frag) (H : Hp) (n : Nat) (x y : V) (b : Bool) : Prop := (flatV x = true ∧ flatV y = true ∧ b = eqV x y) ∨ EqT K H (EqW K H n) x y b
theorem top_tup {K : PySem.W.Frag} {H : Hp} {n : Nat} {a c : Addr} {xs ys : List V} {b : Bool} (h1 : SqT K H a xs) (h2 : SqT K H c ys) (h : SeqE (EqW K H n) xs ys b) : TopE K H n (.ref a) (.ref c) b :=
  .inr (.inr (.inl ⟨a, c, xs, ys, rfl, rfl, h1, h2, h⟩))
theorem top_lst {K : PySem.W.Frag} {H : Hp} {n : Nat} {a c : Addr} {xs ys : List V} {b : Bool} (h1 : SqL K H a xs) (h2 : SqL K H c ys) (h : SeqE (EqW K H n) xs ys b) : TopE K H n (.ref a) (.ref c) b :=
  .inr (.inl ⟨a, c, xs, ys, rfl, rfl, h1, h2, .inr h⟩)
theorem top_txts {K : PySem.W.Frag} {H : Hp} {n : Nat} {a c : Addr} {l m : List Str} (h1 : SqT K H a (txts l)) (h2 : SqT K H c (txts m)) : TopE K H n (.ref a) (.ref c) (decide (l = m)) := top_tup h1 h2 (seqE_txt l m)
theorem top_sgs {K : PySem.W.Frag} {H : Hp} {n : Nat} {a c : Addr} {l m : List Sg} (h1 : SgsAt K H a l) (h2 : SgsAt K H c m) : TopE K H (n + 2) (.ref a) (.ref c) (decide (l = m)) := by
  obtain ⟨xs, x1, x2⟩ := h1
  obtain ⟨ys, y1, y2⟩ := h2
  exact top_tup x1 y1 (seqE_dec (E := EqW K H (n + 2)) (R := SgAt K H) (R' := SgAt K H) (fun _ _ _ _ p q => eqW_sg p q) x2 y2)
theorem top_sgs_self {K : PySem.W.Frag} {H : Hp} {n : Nat} {a c : Addr} {l : List Sg} (h1 : SgsAt K H a l) (h2 : SgsAt K H c l) : TopE K H (n + 2) (.ref a) (.ref c) true := by
  have q := top_sgs (n := n) h1 h2
  rwa [decide_eq_true rfl] at q
end Z
namespace Z
open PySem PySem.Spec PyProof.Rows L2
theorem seqE_ids {K : PySem.W.Frag} {H : Hp} {n : Nat} : ∀ (xs : List V), (∀ v ∈ xs, ∃ a, v = V.ref a) → SeqE (EqW K H n) xs xs true
  | [], _ => seqE_nil
  | x :: xs, h => by
    obtain ⟨a, rfl⟩ := h x (by simp)
    exact seqE_cons EqW.same (seqE_ids xs fun v hv => h v (by simp [hv]))
theorem pcs_refs {K : PySem.W.Frag} {H : Hp} : ∀ {us : List V} {ps : List Pc}, Paired (PcAt K H) us ps → ∀ v ∈ us, ∃ a, v = V.ref a
  | _, _, .nil => fun v hv => by simp at hv
  | _, _, .cons x r => fun v hv => by
    rcases List.mem_cons.mp hv with rfl | h
    · obtain ⟨a, _, _, _, e, _⟩ := x
      exact ⟨a, e⟩
    · exact pcs_refs r v h
end Z

set_option Elab.async false
set_option linter.all false
set_option maxRecDepth 100000
set_option maxHeartbeats 4000000
namespace Z
open PySem PySem.Spec PyProof.Rows L2
/-! ### texts: join, count, index -/
theorem join0S : ∀ ys : List Str, cl (Str.join ("" : Str) ys) = (ys.map cl).flatten
  | [] => by rw [show ([] : List Str).map cl = [] from rfl]; exact (by decide +kernel : cl (Str.join ("" : Str) []) = [])
  | [x] => by
    show cl x = _
    simp
  | x :: y :: r => by
    rw [PyProof.Rows.join_cons_cons, cl_append, cl_append, join0S (y :: r), nil_s]
    simp
theorem join0 (ys : List Str) : cl (Txt.join ("" : Str) ys) = (ys.map cl).flatten := by rw [eq_of_beq (PyProof.Rows.join_plain_closes _ _)]; exact join0S ys
theorem cnt_is (c : Nat) : ∀ l : List Nat, PyProof.Rows.cnt c l = (l.count c : Int)
  | [] => rfl
  | a :: r => by
    rw [PyProof.Rows.cnt_cons, cnt_is c r]
    by_cases h : a = c
    · subst h; rw [if_pos rfl, List.count_cons_self]; omega
    · rw [if_neg h, List.count_cons_of_ne h]; omega
theorem q34 : ("\"" : Str) = ⟨#[34]⟩ := by decide +kernel
theorem count34 (z : Str) : Txt.count z ("\"" : Str) = ((cl z).count 34 : Nat) := by
  rw [q34, PyProof.Rows.count_cnt, cnt_is]
theorem rep_len (n : Int) (l : List Nat) : (rep n l).length = n.toNat * l.length := by
  unfold rep
  rw [List.length_flatten, List.map_replicate, List.sum_replicate_nat]
theorem rep_count (c : Nat) (n : Int) (l : List Nat) : (rep n l).count c = n.toNat * l.count c := by
  unfold rep
  rw [List.count_flatten, List.map_replicate, List.sum_replicate_nat]
theorem getD_clx (z : Str) (v : Nat) : z.cps.getD v 0 = (cl z).getD v 0 := by
  rw [List.getD_eq_getElem?_getD, Array.getElem?_toList, Array.getD_eq_getD_getElem?]
theorem find_q0 (z : Str) : Txt.find3 z ("\"" : Str) 0 = match qAt (cl z) with | none => -1 | some k => ((k : Nat) : Int) := by
  have hcl := cl_len z
  rw [q34]
  have f0 : PySem.fromIndex z.length 0 = 0 := rfl
  rcases PySem.StrLaws.find3_spec z 34 0 with ⟨h1, h2⟩ | ⟨k, h1, h2, h3, h4, h5⟩
  · rw [h1, qAt_none (l := cl z) fun v hv => by
      rw [← getD_clx]
      exact h2 _ (by rw [f0]; omega) (by omega)]
  · rw [h1, qAt_some (l := cl z) (k := k) (by omega) (by rw [← getD_clx]; exact h4) fun v hv => by
      rw [← getD_clx]
      exact h5 _ (by rw [f0]; omega) (by omega)]
theorem index_q (z : Str) : Txt.index0 z ("\"" : Str) = qAt (cl z) := by
  have h := find_q0 z
  unfold Txt.find3 at h
  unfold Txt.index0
  rw [show PySem.fromIndex z.length 0 = 0 from rfl] at h
  cases e : PySem.Builtin.Str.occurrences z ("\"" : Str) 0 z.length 1 with
  | nil =>
    rw [e] at h
    cases q : qAt (cl z) with
    | none => rfl
    | some k =>
      rw [q] at h
      replace h : (-1 : Int) = ((k : Nat) : Int) := h
      omega
  | cons a r =>
    rw [e] at h
    cases q : qAt (cl z) with
    | none =>
      rw [q] at h
      replace h : ((a : Nat) : Int) = -1 := h
      omega
    | some k =>
      rw [q] at h
      replace h : ((a : Nat) : Int) = ((k : Nat) : Int) := h
      have : a = k := by omega
      subst this
      rfl
/-! ### a drawn state: what is written there and nowhere else -/
structure Mut (b : Addr) (M : Hp → Prop) : Prop where
  new : ∀ H D o, M H → b ≠ D → M (L2.upd H D o)
  lst : ∀ H, M H → ∃ xs, H b = some (.lst xs)
theorem Mut.stay {b : Addr} {M : Hp → Prop} (m : Mut b M) {H H' : Hp} (h : M H) (k : Keep [b] H H') : Stay H H' := by
  obtain ⟨xs, e⟩ := m.lst H h
  exact k.stay e
theorem Keep.made {S : List Addr} {H H1 : Hp} {D : Addr} {o : HO} (k : Keep S H H1) (h : H D = none) : Keep S H (L2.upd H1 D o) := fun c u e n => by
  rw [upd_ne (ne_of_none e h)]
  exact k c u e n
/-- a comprehension whose element draws -/
theorem lc_mut {J : It} {n : Nat} {Y : Nat → Hp → V → Hp → Prop} (w : Walk J n (fun _ => True) Y) {b : Addr} {M : Hp → Prop} (mu : Mut b M) {G : V → Hp → Prop} (hG : ∀ v H H', G v H → Stay H H' → G v H') {g : TG} {te : TE} {vs : List Nat} {σ : L2.St} {H1 : Hp} {D : Addr} {Qd : Hp → Prop}
    (hn : n ≤ 16777216) (hM : M H1) (hD : H1 D = none)
    (hs : ∀ i x H H' (R : V → Hp → Prop), i < n → M H → Keep [b] H1 H → Y i H x H' → (∀ v H4, G v H4 → M H4 → Keep [b] H H4 → R v H4) → g x (wipe σ vs) H' fun σ2 H2 => wipe σ2 vs = wipe σ vs ∧ te σ2 H2 R)
    (hd : ∀ us H, us.length = n → (∀ v ∈ us, G v H) → M H → Keep [b] H1 H → H D = some (.lst us) → Qd H) :
    ∃ W : Nat → Nat → Hp → Prop, (∃ m, W 0 m (L2.upd H1 D (.lst []))) ∧ ∀ i m H, W i m H →
      (J.stop i H ∧ Qd H) ∨ (J.go i H ∧ ∃ Nx : Hp → Prop, (∀ H', Nx H' → ∃ m', m' < m ∧ W (i + 1) m' H') ∧ ∀ x H', J.yld i H x H' → g x (wipe σ vs) H' fun σ2 H2 => wipe σ2 vs = wipe σ vs ∧ tYes σ2 H2 fun b H3 =>
        if b = true then te σ2 H3 fun y H4 => ∃ acc, H4 D = some (.lst acc) ∧ acc.length < sizeLine ∧ Nx (L2.upd H4 D (.lst (acc ++ [y]))) else Nx H3) := by
  have nb : b ≠ D := by
    obtain ⟨xs, e⟩ := mu.lst H1 hM
    exact ne_of_none e hD
  refine lc_it w (fun i H => M H ∧ Keep [b] H1 H ∧ ∃ us, H D = some (.lst us) ∧ us.length = i ∧ ∀ v ∈ us, G v H) ⟨mu.new _ _ _ hM nb, Keep.refl.new hD, [], upd_same, rfl, by simp⟩ (fun _ _ _ _ => True.intro) ?_ ?_
  · rintro i x H H' hi ⟨m, k, us, e, hl, hu⟩ y
    refine hs i x H H' _ hi m k y fun v H4 gv m4 k4 => ?_
    have e4 := k4.one e nb.symm
    have st := mu.stay m k4
    have st2 : Stay H4 (L2.upd H4 D (.lst (us ++ [v]))) := Stay.refl.updL e4
    refine ⟨us, e4, by rw [ss]; omega, mu.new _ _ _ m4 nb, (k.trans k4).made hD, us ++ [v], upd_same, by simp [hl], fun u hu' => ?_⟩
    rcases List.mem_append.mp hu' with h | h
    · exact hG u _ _ (hu u h) (st.trans st2)
    · rw [List.mem_singleton] at h
      subst h
      exact hG u _ _ gv st2
  · rintro H ⟨m, k, us, e, hl, hu⟩
    exact hd us H hl hu m k e
/-- texts of at most n signs -/
def TxG (n : Nat) : V → Hp → Prop := fun v _ => ∃ z : Str, v = .str z ∧ z.length ≤ n
theorem TxG.all {n : Nat} {H : Hp} : ∀ {us : List V}, (∀ v ∈ us, TxG n v H) → ∃ ws : List Str, us = ws.map V.str ∧ ∀ w ∈ ws, w.length ≤ n
  | [], _ => ⟨[], rfl, by simp⟩
  | u :: us, h => by
    obtain ⟨z, rfl, hz⟩ := h u (by simp)
    obtain ⟨ws, rfl, hw⟩ := TxG.all (us := us) fun v hv => h v (by simp [hv])
    exact ⟨z :: ws, rfl, fun w hw' => (List.mem_cons.mp hw').elim (fun e => e ▸ hz) (hw w)⟩
theorem sum_le {n : Nat} : ∀ (ws : List Str), (∀ w ∈ ws, w.length ≤ n) → (ws.map (·.length)).sum ≤ n * ws.length
  | [], _ => by simp
  | w :: ws, h => by
    have a := h w (by simp)
    have b := sum_le ws fun v hv => h v (by simp [hv])
    rw [List.map_cons, List.sum_cons, List.length_cons, Nat.mul_add, Nat.mul_one]
    omega
theorem join0_len (ws : List Str) : (Txt.join ("" : Str) ws).length = (ws.map (·.length)).sum := by
  rw [← cl_len, join0, List.length_flatten, List.map_map]
  exact congrArg List.sum (List.map_congr_left fun w _ => cl_len w)
end Z
namespace Z
open PySem PySem.Spec PyProof.Rows L2
/-- one sign out of a text -/
def ChG (l : List Nat) : V → Hp → Prop := fun v _ => ∃ c, c ∈ l ∧ v = .str ⟨#[c]⟩
theorem ix_m {z : Str} {r : Int} (h0 : 0 ≤ r) (h1 : r < z.length) : ∃ c, c ∈ cl z ∧ atI z.cps.toList r = some c := by
  have h : r.toNat < (cl z).length := by rw [cl_len]; omega
  exact ⟨(cl z)[r.toNat], List.getElem_mem h, at_of2 h0 (List.getElem?_eq_getElem h)⟩
theorem ChG.all {l : List Nat} {H : Hp} : ∀ {us : List V}, (∀ v ∈ us, ChG l v H) → ∃ cs : List Nat, us = (cs.map fun c => (⟨#[c]⟩ : Str)).map V.str ∧ ∀ c ∈ cs, c ∈ l
  | [], _ => ⟨[], rfl, by simp⟩
  | u :: us, h => by
    obtain ⟨c, hc, rfl⟩ := h u (by simp)
    obtain ⟨cs, rfl, hw⟩ := ChG.all (us := us) fun v hv => h v (by simp [hv])
    exact ⟨c :: cs, rfl, fun w hw' => (List.mem_cons.mp hw').elim (fun e => e ▸ hc) (hw w)⟩
theorem join_cs (cs : List Nat) : cl (Txt.join ("" : Str) (cs.map fun c => (⟨#[c]⟩ : Str))) = cs := by
  rw [join0, List.map_map]
  induction cs with
  | nil => rfl
  | cons c cs ih =>
    rw [List.map_cons, List.flatten_cons, ih]; rfl
theorem sum_cs (cs : List Nat) : ((cs.map fun c => (⟨#[c]⟩ : Str)).map (·.length)).sum = cs.length := by
  induction cs with
  | nil => rfl
  | cons c cs ih => rw [List.map_cons, List.map_cons, List.sum_cons, ih, List.length_cons]; show 1 + _ = _; omega
theorem lenS (l : List Nat) : Str.length ⟨l.toArray⟩ = l.length := List.size_toArray
theorem clS (l : List Nat) : cl ⟨l.toArray⟩ = l := rfl
end Z
namespace Z
open PySem PySem.Spec PyProof.Rows L2
theorem joinS (sep : Str) : ∀ ys : List Str, Txt.join sep ys = Str.join sep ys := fun ys => eq_of_beq (PyProof.Rows.join_plain_closes _ _)
end Z

set_option Elab.async false
set_option linter.all false
set_option maxRecDepth 100000
set_option maxHeartbeats 4000000
namespace Z
open PySem PySem.Spec PyProof.Rows L2
/-! ### tokens beside one another; a row written -/
def isTk (x : List Nat) : Prop := ∃ c r, x = c :: r ∧ c ≠ 32 ∧ tokLen (c :: r) = some (r.length + 1)
theorem isTk.ne {x : List Nat} (h : isTk x) : x ≠ [] := by
  obtain ⟨c, r, e, _⟩ := h
  rw [e]; simp
theorem qAt_app : ∀ {r d : List Nat} {k : Nat}, qAt r = some k → qAt (r ++ d) = some k
  | [], d, k, h => by cases h
  | c :: r, d, k, h => by
    show qAt (c :: (r ++ d)) = some k
    unfold qAt at h ⊢
    split at h
    · rename_i e; rw [if_pos e]; exact h
    · rename_i e
      rw [if_neg e]
      cases q : qAt r with
      | none => rw [q] at h; cases h
      | some j => rw [q] at h; rw [qAt_app q]; exact h
theorem wE_app : ∀ {r d : List Nat}, wE r = r.length → wE (r ++ d) = r.length + wE d
  | [], d, _ => by simp
  | c :: r, d, h => by
    by_cases q : isLF c = true
    · rw [wE_pos q, List.length_cons] at h
      show wE (c :: (r ++ d)) = _
      rw [wE_pos q, wE_app (by omega), List.length_cons]; omega
    · rw [wE_neg q, List.length_cons] at h; omega
theorem prs_two {l : List Nat} (h : l ∈ prs) : ∃ a b, l = [a, b] := by
  have := prs_len h
  match l, this with
  | [a, b], _ => exact ⟨a, b, rfl⟩
/-- the four kinds -/
inductive Kind : Nat → List Nat → Prop
  | txt {r : List Nat} (h : qAt r = some (r.length - 1)) (n : r ≠ []) : Kind 34 r
  | word {c : Nat} {r : List Nat} (h : isLF c = true) (w : wE r = r.length) : Kind c r
  | pair {c d : Nat} (h : [c, d] ∈ prs) (n : c ≠ 34) (l : isLF c = false) : Kind c [d]
  | sign {c : Nat} (n : c ≠ 34) (l : isLF c = false) : Kind c []
theorem kind_of {c : Nat} {r : List Nat} (h : tokLen (c :: r) = some (r.length + 1)) : Kind c r := by
  rw [tokLen_cons] at h
  split at h
  · rename_i e
    subst e
    cases q : qAt r with
    | none => rw [q] at h; cases h
    | some k =>
      rw [q] at h
      have e : k + 2 = r.length + 1 := Option.some.inj h
      have hn : r ≠ [] := by intro z; subst z; cases q
      exact .txt (by rw [q]; congr 1; omega) hn
  · rename_i e
    split at h
    · rename_i e2
      have e3 : wE r + 1 = r.length + 1 := Option.some.inj h
      exact .word e2 (by omega)
    · rename_i e2
      split at h
      · rename_i p
        have e3 : 2 = r.length + 1 := Option.some.inj h
        match r, e3 with
        | [d], _ => exact .pair p e (by simpa using e2)
      · have e3 : 1 = r.length + 1 := Option.some.inj h
        have : r = [] := List.eq_nil_of_length_eq_zero (by omega)
        subst this
        exact .sign e (by simpa using e2)
/-- a token with more behind it -/
theorem kind_app {c : Nat} {r d : List Nat} (k : Kind c r) : tokLen (c :: (r ++ d)) = some (r.length + 1) ↔ match d with
    | [] => True
    | a :: _ => ¬ ((isLF c = true ∧ isLF a = true) ∨ (r = [] ∧ [c, a] ∈ prs)) := by
  rw [tokLen_cons]
  cases k with
  | txt h n =>
    rw [if_pos rfl, qAt_app h]
    have hl : 1 ≤ r.length := by
      cases r with
      | nil => exact absurd rfl n
      | cons => simp
    have e : Option.map (· + 2) (some (r.length - 1)) = some (r.length + 1) := by
      show some (r.length - 1 + 2) = _
      congr 1; omega
    rw [e]
    cases d with
    | nil => simp
    | cons a d =>
      have h34 : isLF 34 = false := by decide +kernel
      simp [h34, n]
  | word h w =>
    have n34 : c ≠ 34 := isLF_ne h
    rw [if_neg n34, if_pos h, wE_app w]
    cases d with
    | nil => simp [wE]
    | cons a d =>
      have np : [c, a] ∉ prs := by
        intro p
        unfold prs at p
        simp only [List.mem_cons, List.cons.injEq, List.not_mem_nil, or_false, and_true] at p
        rcases p with ⟨rfl, _⟩ | ⟨rfl, _⟩ | ⟨rfl, _⟩ | ⟨rfl, _⟩ | ⟨rfl, _⟩ | ⟨rfl, _⟩ | ⟨rfl, _⟩ <;> (revert h; decide +kernel)
      by_cases q : isLF a = true
      · rw [wE_pos q]; simp [h, q]
      · rw [wE_neg q]; simp [q, np]
  | pair p n l =>
    rename_i e
    rw [if_neg n, if_neg (by rw [l]; decide)]
    have : (c :: ([e] ++ d)).take 2 = [c, e] := rfl
    rw [this, if_pos p]
    cases d <;> simp [l]
  | sign n l =>
    rw [if_neg n, if_neg (by rw [l]; decide)]
    cases d with
    | nil =>
      have : ¬ (c :: (([] : List Nat) ++ [])).take 2 ∈ prs := fun p => by have := prs_len p; simp at this
      rw [if_neg this]; simp
    | cons a d =>
      have : (c :: (([] : List Nat) ++ a :: d)).take 2 = [c, a] := rfl
      rw [this]
      by_cases p : [c, a] ∈ prs
      · rw [if_pos p]; simp [p]
      · rw [if_neg p]; simp [p, l]
theorem tok_end {x : List Nat} (h : isTk x) : tokLen x = some x.length := by
  obtain ⟨c, r, rfl, _, h⟩ := h
  exact h
theorem tok_head {x : List Nat} (h : isTk x) (a : Nat) (d d' : List Nat) : tokLen (x ++ a :: d) = some x.length ↔ tokLen (x ++ a :: d') = some x.length := by
  obtain ⟨c, r, rfl, _, h⟩ := h
  have k := kind_of h
  exact (kind_app k).trans (kind_app (d := a :: d') k).symm
theorem tok_bl {x : List Nat} (h : isTk x) (d : List Nat) : tokLen (x ++ 32 :: d) = some x.length := by
  obtain ⟨c, r, rfl, _, h⟩ := h
  refine (kind_app (kind_of h)).mpr ?_
  rintro (⟨_, q⟩ | ⟨_, q⟩)
  · revert q; decide +kernel
  · unfold prs at q; simp at q
def apart (x y : List Nat) : Bool := decide (tokLen (x ++ y) = some x.length)
def wr : Option (List Nat) → List (List Nat) → List Nat
  | _, [] => []
  | none, w :: ws => w ++ wr (some w) ws
  | some l, w :: ws => (if apart l w then w else 32 :: w) ++ wr (some w) ws
theorem wr_front {l : List Nat} (h : isTk l) : ∀ {ws : List (List Nat)}, (∀ w ∈ ws, isTk w) → tokLen (l ++ wr (some l) ws) = some l.length
  | [], _ => by
    show tokLen (l ++ []) = _
    rw [List.append_nil]; exact tok_end h
  | w :: ws, hw => by
    obtain ⟨c, r, e, _, _⟩ := hw w (by simp)
    show tokLen (l ++ ((if apart l w then w else 32 :: w) ++ wr (some w) ws)) = _
    by_cases q : apart l w = true
    · rw [if_pos q]
      have q2 := of_decide_eq_true q
      subst e
      rw [List.cons_append]
      exact (tok_head h c r _).mp q2
    · rw [if_neg q]
      exact tok_bl h _
theorem lex_tok {a : Nat} {x d : List Nat} (h : isTk x) (q : tokLen (x ++ d) = some x.length) : lexOf a (x ++ d) = cat [(x, a)] (lexOf (a + x.length) d) := by
  obtain ⟨c, r, rfl, n, _⟩ := h
  have e := lexOf_some (a := a) n (r := r ++ d) q
  rw [show c :: r ++ d = c :: (r ++ d) from rfl, e]
  have e1 : (c :: (r ++ d)).take (c :: r).length = c :: r := by
    rw [← List.cons_append, List.take_left]
  have e2 : (c :: (r ++ d)).drop (c :: r).length = d := by
    rw [← List.cons_append, List.drop_left]
  rw [e1, e2]
theorem lex_wr_some : ∀ {ws : List (List Nat)} (l : List Nat) (a : Nat), (∀ w ∈ ws, isTk w) → ∃ t, lexOf a (wr (some l) ws) = .ok t ∧ t.map (·.1) = ws
  | [], l, a, _ => ⟨[], rfl, rfl⟩
  | w :: ws, l, a, hw => by
    have h := hw w (by simp)
    have hs : ∀ v ∈ ws, isTk v := fun v hv => hw v (by simp [hv])
    have f := wr_front h hs
    show ∃ t, lexOf a ((if apart l w then w else 32 :: w) ++ wr (some w) ws) = .ok t ∧ _
    by_cases q : apart l w = true
    · rw [if_pos q, lex_tok h f]
      obtain ⟨t, e1, e2⟩ := lex_wr_some w (a + w.length) hs
      rw [e1]
      exact ⟨_, rfl, by simp [e2]⟩
    · rw [if_neg q, List.cons_append, lexOf_bl, lex_tok h f]
      obtain ⟨t, e1, e2⟩ := lex_wr_some w (a + 1 + w.length) hs
      rw [e1]
      exact ⟨_, rfl, by simp [e2]⟩
/-- what is written is read as it was -/
theorem lex_wr {ws : List (List Nat)} (a : Nat) (hw : ∀ w ∈ ws, isTk w) : ∃ t, lexOf a (wr none ws) = .ok t ∧ t.map (·.1) = ws := by
  cases ws with
  | nil => exact ⟨[], rfl, rfl⟩
  | cons w ws =>
    have h := hw w (by simp)
    have hs : ∀ v ∈ ws, isTk v := fun v hv => hw v (by simp [hv])
    show ∃ t, lexOf a (w ++ wr (some w) ws) = .ok t ∧ _
    rw [lex_tok h (wr_front h hs)]
    obtain ⟨t, e1, e2⟩ := lex_wr_some w (a + w.length) hs
    rw [e1]
    exact ⟨_, rfl, by simp [e2]⟩
/-- with a blank between any two -/
def wb : List (List Nat) → List Nat
  | [] => []
  | [w] => w
  | w :: v :: ws => w ++ 32 :: wb (v :: ws)
theorem lex_wb : ∀ {ws : List (List Nat)} (a : Nat), (∀ w ∈ ws, isTk w) → ∃ t, lexOf a (wb ws) = .ok t ∧ t.map (·.1) = ws
  | [], a, _ => ⟨[], rfl, rfl⟩
  | [w], a, hw => by
    have h := hw w (by simp)
    have e := lex_tok (a := a) (d := []) h (by rw [List.append_nil]; exact tok_end h)
    rw [List.append_nil] at e
    show ∃ t, lexOf a w = .ok t ∧ _
    rw [e]
    exact ⟨_, rfl, rfl⟩
  | w :: v :: ws, a, hw => by
    have h := hw w (by simp)
    show ∃ t, lexOf a (w ++ 32 :: wb (v :: ws)) = .ok t ∧ _
    rw [lex_tok h (tok_bl h _), lexOf_bl]
    obtain ⟨t, e1, e2⟩ := lex_wb (ws := v :: ws) (a + w.length + 1) fun u hu => hw u (by simp [List.mem_cons] at hu ⊢; exact .inr hu)
    rw [e1]
    exact ⟨_, rfl, by simp [e2]⟩
/-- what is read is tokens -/
theorem take_tk {c : Nat} {r : List Nat} {n : Nat} (h : c ≠ 32) (q : tokLen (c :: r) = some n) : isTk ((c :: r).take n) := by
  have hb := tokLen_le q
  obtain ⟨m, rfl⟩ : ∃ m, n = m + 1 := ⟨n - 1, by omega⟩
  refine ⟨c, r.take m, rfl, h, ?_⟩
  have hl : (r.take m).length = m := by rw [List.length_take]; omega
  rw [hl]
  rw [tokLen_cons] at q ⊢
  split at q
  · rename_i e
    rw [if_pos e]
    cases z : qAt r with
    | none => rw [z] at q; cases q
    | some k =>
      rw [z] at q
      have e3 : k + 2 = m + 1 := Option.some.inj q
      have hk : m = k + 1 := by omega
      subst hk
      have hkl := qAt_lt z
      have : qAt (r.take (k + 1)) = some k := by
        clear q e3 hl hb
        induction r generalizing k with
        | nil => cases z
        | cons d r ih =>
          rw [List.take_succ_cons]
          unfold qAt at z ⊢
          split at z
          · rename_i e4; rw [if_pos e4]; exact z
          · rename_i e4
            rw [if_neg e4]
            cases z2 : qAt r with
            | none => rw [z2] at z; cases z
            | some j =>
              rw [z2] at z
              have : j + 1 = k := Option.some.inj z
              subst this
              rw [ih j z2 (qAt_lt z2)]; rfl
      rw [this]; rfl
  · rename_i e
    rw [if_neg e]
    split at q
    · rename_i e2
      rw [if_pos e2]
      have e3 : wE r + 1 = m + 1 := Option.some.inj q
      have e4 : wE r = m := by omega
      subst e4
      congr 2
      unfold wE
      clear q e3 hl hb
      induction r with
      | nil => rfl
      | cons d r ih =>
        by_cases g : isLF d = true
        · rw [List.takeWhile_cons_of_pos g, List.length_cons, List.take_succ_cons, List.takeWhile_cons_of_pos g, List.length_cons, ih]
        · rw [List.takeWhile_cons_of_neg g]; rfl
    · rename_i e2
      rw [if_neg e2]
      split at q
      · rename_i p
        have e3 : 2 = m + 1 := Option.some.inj q
        have : m = 1 := by omega
        subst this
        have e5 : (c :: r.take 1).take 2 = (c :: r).take 2 := by
          cases r <;> rfl
        rw [e5, if_pos p]
      · have e3 : 1 = m + 1 := Option.some.inj q
        have : m = 0 := by omega
        subst this
        have : ¬ (c :: r.take 0).take 2 ∈ prs := fun p => by have := prs_len p; simp at this
        rw [if_neg this]
theorem lex_tk {a : Nat} {l : List Nat} {t : List Tk} (h : lexOf a l = .ok t) : ∀ x ∈ t, isTk x.1 :=
  lex_all (fun x => isTk x.1) (fun _ _ _ _ n q => take_tk n q) _ _ _ _ (Nat.le_refl _) h
end Z
namespace Z
open PySem PySem.Spec PyProof.Rows L2
theorem isTk_sign {c : Nat} (h : c ≠ 34) (h2 : c ≠ 32) (h3 : isLF c = false) : isTk [c] := by
  refine ⟨c, [], rfl, h2, ?_⟩
  rw [tokLen_cons, if_neg h, if_neg (by rw [h3]; decide)]
  have : ¬ ([c] : List Nat).take 2 ∈ prs := fun p => by have := prs_len p; simp at this
  rw [if_neg this]; rfl
theorem isTk_word {l : List Nat} (h : l ≠ []) (h2 : ∀ c ∈ l, isLF c = true) : isTk l := by
  cases l with
  | nil => exact absurd rfl h
  | cons c r =>
    have hc := h2 c (by simp)
    have n34 := isLF_ne hc
    refine ⟨c, r, rfl, by intro e; subst e; revert hc; decide +kernel, ?_⟩
    rw [tokLen_cons, if_neg n34, if_pos hc]
    have : wE r = r.length := wE_all.mpr (List.all_eq_true.mpr fun d hd => h2 d (by simp [hd]))
    rw [this]
theorem qAt_last : ∀ {r : List Nat}, 34 ∉ r → qAt (r ++ [34]) = some r.length
  | [], _ => rfl
  | c :: r, h => by
    have h1 : c ≠ 34 := fun e => h (by simp [e])
    show qAt (c :: (r ++ [34])) = _
    unfold qAt
    rw [if_neg h1, qAt_last fun e => h (by simp [e])]; rfl
theorem isTk_text {r : List Nat} (h : 34 ∉ r) : isTk (34 :: (r ++ [34])) := by
  refine ⟨34, _, rfl, by decide, ?_⟩
  rw [tokLen_cons, if_pos rfl, qAt_last h]
  simp
theorem isTk_pair {l : List Nat} (h : l ∈ prs) : isTk l := by
  obtain ⟨a, b, rfl⟩ := prs_two h
  have q : ∀ l ∈ prs, isLF (l.getD 0 0) = false ∧ l.getD 0 0 ≠ 34 := by decide +kernel
  obtain ⟨q1, q2⟩ := q _ h
  refine ⟨a, [b], rfl, prs_blank h, ?_⟩
  rw [tokLen_cons, if_neg (show a ≠ 34 from q2), if_neg (by rw [show isLF a = false from q1]; decide)]
  have : ([a, b] : List Nat).take 2 = [a, b] := rfl
  rw [this, if_pos h]; rfl
/-- what the law looks at, at two tokens' ends -/
def partsL (x y : List Nat) : Bool := (isLF (x.getLastD 0) && (decide (x.getD 0 0 ≠ 34) && isLF (y.getD 0 0))) || (decide (x.length = 1) && decide ([x.getD 0 0, y.getD 0 0] ∈ prs))
theorem parts_eq {x y : List Nat} (hx : isTk x) (hy : y ≠ []) : partsL x y = !apart x y := by
  obtain ⟨c, r, rfl, n, h⟩ := hx
  cases y with
  | nil => exact absurd rfl hy
  | cons a d =>
    have k := kind_of h
    have ka := kind_app (d := a :: d) k
    have e : apart (c :: r) (a :: d) = decide (¬ ((isLF c = true ∧ isLF a = true) ∨ (r = [] ∧ [c, a] ∈ prs))) := by
      unfold apart
      rw [decide_eq_decide]
      exact ka
    rw [e]
    unfold partsL
    show ((isLF ((c :: r).getLastD 0) && (decide (c ≠ 34) && isLF a)) || (decide (r.length + 1 = 1) && decide ([c, a] ∈ prs))) = _
    have h34 : isLF 34 = false := by decide +kernel
    have npw : isLF c = true → [c, a] ∉ prs := by
      intro h p
      unfold prs at p
      simp only [List.mem_cons, List.cons.injEq, List.not_mem_nil, or_false, and_true] at p
      rcases p with ⟨rfl, _⟩ | ⟨rfl, _⟩ | ⟨rfl, _⟩ | ⟨rfl, _⟩ | ⟨rfl, _⟩ | ⟨rfl, _⟩ | ⟨rfl, _⟩ <;> (revert h; decide +kernel)
    cases k with
    | txt h n =>
      have : r.length + 1 ≠ 1 := by
        cases r with
        | nil => exact absurd rfl n
        | cons => simp
      simp [h34, n]
    | word h w =>
      have hl : isLF ((c :: r).getLastD 0) = true := by
        have hall : ∀ d ∈ c :: r, isLF d = true := by
          intro d hd
          rcases List.mem_cons.mp hd with rfl | hd
          · exact h
          · exact List.all_eq_true.mp (wE_all.mp w) d hd
        refine hall _ ?_
        rw [List.getLastD_eq_getLast?, List.getLast?_eq_some_getLast (by simp)]
        exact List.getLast_mem _
      have n34 := isLF_ne h
      rw [hl]
      simp [h, n34, npw h]
    | pair p n l =>
      rename_i e
      have q : ∀ l ∈ prs, isLF (l.getLastD 0) = false := by decide +kernel
      have := q _ p
      rw [this]
      simp [l]
    | sign n l =>
      have : isLF ([c].getLastD 0) = false := l
      rw [this]
      simp [l]
theorem prs_all (l : List Nat) : l ∈ prs ↔ l = [61, 61] ∨ l = [33, 61] ∨ l = [60, 61] ∨ l = [62, 61] ∨ l = [38, 38] ∨ l = [124, 124] ∨ l = [45, 62] := by
  unfold prs
  simp only [List.mem_cons, List.not_mem_nil, or_false]
end Z
namespace Z
open PySem PySem.Spec PyProof.Rows L2
/-- how much a list of texts takes, a sign more for each -/
def sumS (ws : List Str) : Nat := (ws.map fun w => w.length + 1).sum
theorem sumS_snoc (ws : List Str) (w : Str) : sumS (ws ++ [w]) = sumS ws + (w.length + 1) := by
  unfold sumS; rw [List.map_append, List.sum_append]; simp
theorem sumS_len : ∀ ws : List Str, ws.length ≤ sumS ws
  | [] => by simp
  | w :: ws => by
    have := sumS_len ws
    unfold sumS at this ⊢
    rw [List.map_cons, List.sum_cons, List.length_cons]; omega
theorem sumS_mem : ∀ {ws : List Str} {w : Str}, w ∈ ws → w.length + 1 ≤ sumS ws
  | [], w, h => by simp at h
  | a :: ws, w, h => by
    unfold sumS
    rw [List.map_cons, List.sum_cons]
    rcases List.mem_cons.mp h with rfl | h2
    · omega
    · have := sumS_mem h2
      unfold sumS at this; omega
def Toks (ws : List Str) : Prop := ∀ w ∈ ws, isTk (cl w)
theorem Toks.snoc {ws : List Str} {w : Str} (h : Toks ws) (hw : isTk (cl w)) : Toks (ws ++ [w]) := fun v hv => by
  rcases List.mem_append.mp hv with h2 | h2
  · exact h v h2
  · rw [List.mem_singleton] at h2; subst h2; exact hw
end Z
namespace Z
open PySem PySem.Spec PyProof.Rows L2
theorem join_wb : ∀ ws : List Str, cl (Str.join (" " : Str) ws) = wb (ws.map cl)
  | [] => by decide +kernel
  | [w] => by
    show cl w = _
    rfl
  | w :: v :: ws => by
    rw [PyProof.Rows.join_cons_cons, cl_append, cl_append, join_wb (v :: ws), List.append_assoc, show cl (" " : Str) = [32] by rw [one_bl]]
    rfl
theorem wb_len : ∀ ws : List (List Nat), (wb ws).length ≤ (ws.map fun w => w.length + 1).sum
  | [] => by simp [wb]
  | [w] => by simp [wb]
  | w :: v :: ws => by
    have := wb_len (v :: ws)
    show (w ++ 32 :: wb (v :: ws)).length ≤ _
    rw [List.length_append, List.length_cons, List.map_cons, List.sum_cons]
    omega
end Z

set_option Elab.async false
set_option linter.all false
set_option maxRecDepth 100000
set_option maxHeartbeats 4000000
namespace Z
open PySem PySem.Spec PyProof.Rows L2
/-! ### the same rules, the written part named: for the insides of comprehensions -/
section
variable {Y : Cx} {K : PySem.W.Frag}
theorem pe_fldG {e : Expr} {f : Str} {pos : Pos} {ta : TE} (hK : Y.K = K) (he : PE Y e ta) (hb : attributeBase e f Y.env (eval e Y.env) = eval e Y.env) : PE Y (.Attribute e f pos) (tFld K ta f) := by subst hK; exact pe_fld he hb
theorem ix_listG (hK : Y.K = K) : IxR Y (rIxL K) := by subst hK; exact ix_list
theorem ix_tupG (hK : Y.K = K) : IxR Y (rIxT K) := by subst hK; exact ix_tup
theorem sl_listG (hK : Y.K = K) : SlR Y (rSlL K) := by subst hK; exact sl_list
theorem sl_tupAG (hK : Y.K = K) : SlR Y (rSlA K) := by subst hK; exact sl_tupA
theorem call_isiG (hK : Y.K = K) : CallR Y (.builtin "isinstance") (rIsi K) := by subst hK; exact call_isi
theorem op_in_seqG (hK : Y.K = K) : OpR Y (compareOp .In) (rIn K false) := by subst hK; exact op_in_seq
theorem op_notIn_seqG (hK : Y.K = K) : OpR Y (compareOp .NotIn) (rIn K true) := by subst hK; exact op_notIn_seq
theorem call_len_seqG (hK : Y.K = K) : CallR Y (.builtin "len") (fun xs H Q => ∃ p ys, xs = [.ref p] ∧ (SqL K H p ys ∨ SqT K H p ys) ∧ Q (.int ys.length) H) := by subst hK; exact call_len_seq
theorem call_list_ofG (hK : Y.K = K) : CallR Y (.type "list") (fun xs H Q => ∃ p ys, xs = [.ref p] ∧ (SqL K H p ys ∨ SqT K H p ys) ∧ ∀ l, H l = none → Q (.ref l) (L2.upd H l (.lst ys))) := by subst hK; exact call_list_of
theorem op_catAG (hK : Y.K = K) : OpR Y (binaryOp .Add) (rCatA K) := by subst hK; exact op_catA
theorem op_eqWG (hK : Y.K = K) (hu : Y.A.units + 64 < cLine) : OpR Y (compareOp .Eq) (rEqW K false) := by subst hK; exact op_eqW hu
theorem op_neWG (hK : Y.K = K) (hu : Y.A.units + 64 < cLine) : OpR Y (compareOp .NotEq) (rEqW K true) := by subst hK; exact op_neW hu
theorem pi_listG {tg l : Expr} {tl : TE} (hK : Y.K = K) (hl : PE Y l tl) : PI Y tg l (iList K tl) := by subst hK; exact pi_list hl
theorem pi_tupG {tg l : Expr} {tl : TE} (hK : Y.K = K) (hl : PE Y l tl) : PI Y tg l (iTup K tl) := by subst hK; exact pi_tup hl
theorem pg_tupG {es : List Expr} {k : Nat} {t : TGs} {n : Nat} {pos : Pos} (hK : Y.K = K) (hc : Y.calm = true) (h : PGs Y es t)
    (hn : (assignEach es Y.env).length = n := by rfl) (hst : (assignEach es Y.env).findIdx? (·.1) = none := by rfl) : PG Y (.Tuple es k pos) (gTup K n t) := by subst hK; exact pg_tup hc h hn hst
theorem pe_tupleOfG {a : Expr} {ta : TE} {p pos : Pos} (hK : Y.K = K) (hg : Gl Y "tuple") (hm : Y.mg "tuple" = none) (ha : PE Y a ta) (na : starEach [a] Y.env = (false, eval a Y.env) :: starEach [] Y.env := by rfl) :
    PE Y (.Call (.Name "tuple" p) [a] [] pos) (tThen ta (kTup K)) := by subst hK; exact pe_tupleOf hg hm ha na
theorem pe_joinG {o e : Expr} {to te : TE} {apos pos : Pos} (hK : Y.K = K) (ho : PE Y o to) (he : PE Y e te) (hs : starEach [e] Y.env = [(false, eval e Y.env)] := by rfl) (hbase : attributeBase o "join" Y.env (eval o Y.env) = eval o Y.env := by rfl) (hline : (apos.endLine == pos.line) = true := by rfl) :
    PE Y (.Call (.Attribute o "join" apos) [e] [] pos) (tM1 (fun x xs H Q => ∃ a p, ∃ ys : List Str, x = .str a ∧ xs = [.ref p] ∧ (SqL K H p (ys.map V.str) ∨ SqT K H p (ys.map V.str)) ∧
      (ys.map (·.length)).sum + ys.length * a.length ≤ 16777216 ∧ Q (.str (Txt.join a ys)) H) to te) := by subst hK; exact pe_join ho he hs hbase hline
variable {CX : CXT} {k j n : Nat} {x m c : Str} {sp : Sp} {dvs : List V} {p pos apos : Pos} {e o : Expr} {es : List Expr} {ta : TE} {t tk : TA} {E : XK} {ks : List Str} {gV : List V → List V → List V} {kws : List Keyword}
theorem pmkG (hK : Y.K = K) (h : Maker Y.prog Y.w K Y.mg Y.base CX k x sp dvs) (hr : Room j Y.A) (hk : k + 1 ≤ j) (hx : Passes CX Y E) (hg : Gl Y x) (ha : PA Y (e :: es) t)
    (hdb : (x == ("__debug__" : Str)) = false := by decide) (he : starEach (e :: es) Y.env = (false, eval e Y.env) :: starEach es Y.env := by rfl) (hpl : (backTo pos (starEach es Y.env)).any (·.1) = false := by rfl) :
    PE Y (.Call (.Name x p) (e :: es) [] pos) (tMake (He.ga K x) sp dvs E t) := by subst hK; exact pmk h hr hk hx hg ha hdb he hpl
theorem pmtG {pl : Sem Bool} (hK : Y.K = K) (h : MethC Y.prog Y.w K Y.mg Y.base CX k c m sp dvs) (hr : Room j Y.A) (hk : k ≤ j) (hx : Passes CX Y E) (ho : PE Y o ta) (ha : PA Y (e :: es) t)
    (hst : starEach (e :: es) Y.env = (false, eval e Y.env) :: starEach es Y.env := by rfl) (hpl : (backTo pos (starEach es Y.env)).any (·.1) = false := by rfl)
    (ht : eval (.Call (.Attribute o m apos) (e :: es) [] pos) Y.env = (do
      let ov ← eval o Y.env
      standAt apos.atName
      let (f, first) ← holding [ov] (getMethod ov m pl)
      callWith pos f first (backTo pos (starEach (e :: es) Y.env)) (backToKw pos (keywordEach [] Y.env))) := by rfl) :
    PE Y (.Call (.Attribute o m apos) (e :: es) [] pos) (tMeth (He.ga K c) m sp dvs E ta t) := by subst hK; exact pmt h hr hk hx ho ha hst hpl ht
theorem pmt0G {pl : Sem Bool} (hK : Y.K = K) (h : MethC Y.prog Y.w K Y.mg Y.base CX k c m sp dvs) (hr : Room j Y.A) (hk : k ≤ j) (hx : Passes CX Y E) (ho : PE Y o ta)
    (ht : eval (.Call (.Attribute o m apos) [] [] pos) Y.env = (do
      let ov ← eval o Y.env
      standAt apos.atName
      let (f, first) ← holding [ov] (getMethod ov m pl)
      callWith pos f first (backTo pos (starEach [] Y.env)) (backToKw pos (keywordEach [] Y.env))) := by rfl) :
    PE Y (.Call (.Attribute o m apos) [] [] pos) (tMeth (He.ga K c) m sp dvs E ta tNil) := by subst hK; exact pmt0 h hr hk hx ho ht
end
end Z

set_option Elab.async false
set_option linter.all false
set_option maxRecDepth 100000
set_option maxHeartbeats 4000000
namespace Z
open PySem PySem.Spec PyProof.Rows L2
/-! ### the text by places -/
def top (i : Nat) : Stmt := PySem.Challenge.pw_bluepaint_k05_written_and_read.main.body.getD i (.Pass ⟨0, 0, 0, 0⟩)
abbrev st__wall : Stmt := top 0
abbrev st_Unread_init : Stmt := inClass (top 2) 0
abbrev st_Piece_init : Stmt := inClass (top 7) 0
abbrev st_Piece_eq : Stmt := inClass (top 7) 1
abbrev st_Piece_len : Stmt := inClass (top 7) 2
abbrev st_Piece_str : Stmt := inClass (top 7) 3
abbrev st_Piece_repr : Stmt := inClass (top 7) 4
abbrev st_Piece_stands : Stmt := inClass (top 7) 5
abbrev st_word_end : Stmt := top 8
abbrev st_token_end : Stmt := top 9
abbrev st_pieces_of : Stmt := top 10
abbrev st_is_apart : Stmt := top 11
abbrev st_written : Stmt := top 12
abbrev st__law_cell : Stmt := top 14
abbrev st__law_bag : Stmt := top 15
abbrev st__law_take : Stmt := top 16
abbrev st__law_token : Stmt := top 17
abbrev st__law_tokens : Stmt := top 18
abbrev st__law_parts : Stmt := top 19
abbrev st__law_due : Stmt := top 20
abbrev st__law_right : Stmt := top 21
abbrev st_law : Stmt := top 22
def dd__wall : He.DefD := ⟨("_wall", none), "_wall", "_wall", defArgs st__wall, defBody st__wall, defScope st__wall, [], []⟩
def dd_Unread_init : He.DefD := ⟨("Unread", some "__init__"), "__init__", "Unread.__init__", defArgs st_Unread_init, defBody st_Unread_init, defScope st_Unread_init, [], []⟩
def dd_Piece_init : He.DefD := ⟨("Piece", some "__init__"), "__init__", "Piece.__init__", defArgs st_Piece_init, defBody st_Piece_init, defScope st_Piece_init, [.adr (He.dflAt ("Piece", some "__init__") 0)], []⟩
def dd_Piece_eq : He.DefD := ⟨("Piece", some "__eq__"), "__eq__", "Piece.__eq__", defArgs st_Piece_eq, defBody st_Piece_eq, defScope st_Piece_eq, [], []⟩
def dd_Piece_len : He.DefD := ⟨("Piece", some "__len__"), "__len__", "Piece.__len__", defArgs st_Piece_len, defBody st_Piece_len, defScope st_Piece_len, [], []⟩
def dd_Piece_str : He.DefD := ⟨("Piece", some "__str__"), "__str__", "Piece.__str__", defArgs st_Piece_str, defBody st_Piece_str, defScope st_Piece_str, [], []⟩
def dd_Piece_repr : He.DefD := ⟨("Piece", some "__repr__"), "__repr__", "Piece.__repr__", defArgs st_Piece_repr, defBody st_Piece_repr, defScope st_Piece_repr, [], []⟩
def dd_Piece_stands : He.DefD := ⟨("Piece", some "stands"), "stands", "Piece.stands", defArgs st_Piece_stands, defBody st_Piece_stands, defScope st_Piece_stands, [], []⟩
def dd_word_end : He.DefD := ⟨("word_end", none), "word_end", "word_end", defArgs st_word_end, defBody st_word_end, defScope st_word_end, [], []⟩
def dd_token_end : He.DefD := ⟨("token_end", none), "token_end", "token_end", defArgs st_token_end, defBody st_token_end, defScope st_token_end, [], []⟩
def dd_pieces_of : He.DefD := ⟨("pieces_of", none), "pieces_of", "pieces_of", defArgs st_pieces_of, defBody st_pieces_of, defScope st_pieces_of, [], [("page", .str ""), ("number", .int 0)]⟩
def dd_is_apart : He.DefD := ⟨("is_apart", none), "is_apart", "is_apart", defArgs st_is_apart, defBody st_is_apart, defScope st_is_apart, [], []⟩
def dd_written : He.DefD := ⟨("written", none), "written", "written", defArgs st_written, defBody st_written, defScope st_written, [], []⟩
def dd__law_cell : He.DefD := ⟨("_law_cell", none), "_law_cell", "_law_cell", defArgs st__law_cell, defBody st__law_cell, defScope st__law_cell, [], []⟩
def dd__law_bag : He.DefD := ⟨("_law_bag", none), "_law_bag", "_law_bag", defArgs st__law_bag, defBody st__law_bag, defScope st__law_bag, [], []⟩
def dd__law_take : He.DefD := ⟨("_law_take", none), "_law_take", "_law_take", defArgs st__law_take, defBody st__law_take, defScope st__law_take, [], []⟩
def dd__law_token : He.DefD := ⟨("_law_token", none), "_law_token", "_law_token", defArgs st__law_token, defBody st__law_token, defScope st__law_token, [], []⟩
def dd__law_tokens : He.DefD := ⟨("_law_tokens", none), "_law_tokens", "_law_tokens", defArgs st__law_tokens, defBody st__law_tokens, defScope st__law_tokens, [], []⟩
def dd__law_parts : He.DefD := ⟨("_law_parts", none), "_law_parts", "_law_parts", defArgs st__law_parts, defBody st__law_parts, defScope st__law_parts, [], []⟩
def dd__law_due : He.DefD := ⟨("_law_due", none), "_law_due", "_law_due", defArgs st__law_due, defBody st__law_due, defScope st__law_due, [], []⟩
def dd__law_right : He.DefD := ⟨("_law_right", none), "_law_right", "_law_right", defArgs st__law_right, defBody st__law_right, defScope st__law_right, [], []⟩
def dd_law : He.DefD := ⟨("law", none), "law", "law", defArgs st_law, defBody st_law, defScope st_law, [], []⟩
def fn : List He.DefD := [dd__wall, dd_Unread_init, dd_Piece_init, dd_Piece_eq, dd_Piece_len, dd_Piece_str, dd_Piece_repr, dd_Piece_stands, dd_word_end, dd_token_end, dd_pieces_of, dd_is_apart, dd_written, dd__law_cell, dd__law_bag, dd__law_take, dd__law_token, dd__law_tokens, dd__law_parts, dd__law_due, dd__law_right, dd_law]
def fa : List He.Fa := [.glo "_wall", .glo "Unread", .str "LETTERS" "abcdefghijklmnopqrstuvwxyzABCDEFGHIJKLMNOPQRSTUVWXYZ", .str "FIGURES" "0123456789", .glo "PAIRS", .glo "Piece", .cls "Piece", .mkr "Piece", .meth "Piece" "__init__", .meth "Piece" "__eq__", .meth "Piece" "__len__", .meth "Piece" "__str__", .meth "Piece" "__repr__", .meth "Piece" "stands", .noat "Piece" "text", .noat "Piece" "signs", .noat "Piece" "paint", .glo "word_end", .glo "token_end", .glo "pieces_of", .glo "is_apart", .glo "written", .glo "_law_cell", .glo "_law_bag", .glo "_law_take", .glo "_law_token", .glo "_law_tokens", .glo "_law_parts", .glo "_law_due", .glo "_law_right", .glo "law", .free "isinstance", .free "len", .free "str", .free "tuple", .free "range", .free "abs", .free "min", .free "int", .free "enumerate", .free "list", .free "max", .free "ValueError"]
def exB (K : PySem.W.Frag) : Bool := clsIB K "Piece" && (kcB K "Piece" "Piece" true && (tupA K (He.dflAt ("Piece", some "__init__") 0 K) [] && (He.tupB K "PAIRS" [.str "==", .str "!=", .str "<=", .str ">=", .str "&&", .str "||", .str "->"] && (true))))
structure Top (w : World) (K : PySem.W.Frag) (mg : Str → Option Value) : Prop where
  ex : ∃ h : Heap, K.In h ∧ h.Ns mainGlobals mg ∧ He.SaysX fa fn [] [] exB w h K
section
variable {w : World} {K : PySem.W.Frag} {mg : Str → Option Value}
theorem Top.g__wall (T : Top w K mg) : mg "_wall" = some (.ref (He.ga K "_wall")) := by
  obtain ⟨h, X, G, c⟩ := T
  have q := c.t.d.fact 0 (f := .glo "_wall") rfl
  exact He.glo_ok X G q
theorem Top.g_Unread (T : Top w K mg) : mg "Unread" = some (.ref (He.ga K "Unread")) := by
  obtain ⟨h, X, G, c⟩ := T
  have q := c.t.d.fact 1 (f := .glo "Unread") rfl
  exact He.glo_ok X G q
theorem Top.s_LETTERS (T : Top w K mg) : ∃ t, mg "LETTERS" = some (.str "abcdefghijklmnopqrstuvwxyzABCDEFGHIJKLMNOPQRSTUVWXYZ" t) := by
  obtain ⟨h, X, G, c⟩ := T
  have q := c.t.d.fact 2 (f := .str "LETTERS" "abcdefghijklmnopqrstuvwxyzABCDEFGHIJKLMNOPQRSTUVWXYZ") rfl
  exact He.str_ok X G q
theorem Top.s_FIGURES (T : Top w K mg) : ∃ t, mg "FIGURES" = some (.str "0123456789" t) := by
  obtain ⟨h, X, G, c⟩ := T
  have q := c.t.d.fact 3 (f := .str "FIGURES" "0123456789") rfl
  exact He.str_ok X G q
theorem Top.g_PAIRS (T : Top w K mg) : mg "PAIRS" = some (.ref (He.ga K "PAIRS")) := by
  obtain ⟨h, X, G, c⟩ := T
  have q := c.t.d.fact 4 (f := .glo "PAIRS") rfl
  exact He.glo_ok X G q
theorem Top.g_Piece (T : Top w K mg) : mg "Piece" = some (.ref (He.ga K "Piece")) := by
  obtain ⟨h, X, G, c⟩ := T
  have q := c.t.d.fact 5 (f := .glo "Piece") rfl
  exact He.glo_ok X G q
theorem Top.cl_Piece (T : Top w K mg) : Cls K (He.ga K "Piece") := by
  obtain ⟨h, X, G, c⟩ := T
  have q := c.t.d.fact 6 (f := .cls "Piece") rfl
  exact He.cls_ok q
theorem Top.mk_Piece (T : Top w K mg) : Mk K (He.ga K "Piece") (He.ma K (He.ga K "Piece") "__init__") := by
  obtain ⟨h, X, G, c⟩ := T
  have q := c.t.d.fact 7 (f := .mkr "Piece") rfl
  exact He.mkr_ok q
theorem Top.m_Piece___init__ (T : Top w K mg) : Meth K (He.ga K "Piece") "__init__" (He.ma K (He.ga K "Piece") "__init__") := by
  obtain ⟨h, X, G, c⟩ := T
  have q := c.t.d.fact 8 (f := .meth "Piece" "__init__") rfl
  exact He.meth_ok q
theorem Top.m_Piece___eq__ (T : Top w K mg) : Meth K (He.ga K "Piece") "__eq__" (He.ma K (He.ga K "Piece") "__eq__") := by
  obtain ⟨h, X, G, c⟩ := T
  have q := c.t.d.fact 9 (f := .meth "Piece" "__eq__") rfl
  exact He.meth_ok q
theorem Top.m_Piece___len__ (T : Top w K mg) : Meth K (He.ga K "Piece") "__len__" (He.ma K (He.ga K "Piece") "__len__") := by
  obtain ⟨h, X, G, c⟩ := T
  have q := c.t.d.fact 10 (f := .meth "Piece" "__len__") rfl
  exact He.meth_ok q
theorem Top.m_Piece___str__ (T : Top w K mg) : Meth K (He.ga K "Piece") "__str__" (He.ma K (He.ga K "Piece") "__str__") := by
  obtain ⟨h, X, G, c⟩ := T
  have q := c.t.d.fact 11 (f := .meth "Piece" "__str__") rfl
  exact He.meth_ok q
theorem Top.m_Piece___repr__ (T : Top w K mg) : Meth K (He.ga K "Piece") "__repr__" (He.ma K (He.ga K "Piece") "__repr__") := by
  obtain ⟨h, X, G, c⟩ := T
  have q := c.t.d.fact 12 (f := .meth "Piece" "__repr__") rfl
  exact He.meth_ok q
theorem Top.m_Piece_stands (T : Top w K mg) : Meth K (He.ga K "Piece") "stands" (He.ma K (He.ga K "Piece") "stands") := by
  obtain ⟨h, X, G, c⟩ := T
  have q := c.t.d.fact 13 (f := .meth "Piece" "stands") rfl
  exact He.meth_ok q
theorem Top.na_Piece_text (T : Top w K mg) : NoAttr K (He.ga K "Piece") "text" := by
  obtain ⟨h, X, G, c⟩ := T
  have q := c.t.d.fact 14 (f := .noat "Piece" "text") rfl
  exact He.noat_ok q
theorem Top.na_Piece_signs (T : Top w K mg) : NoAttr K (He.ga K "Piece") "signs" := by
  obtain ⟨h, X, G, c⟩ := T
  have q := c.t.d.fact 15 (f := .noat "Piece" "signs") rfl
  exact He.noat_ok q
theorem Top.na_Piece_paint (T : Top w K mg) : NoAttr K (He.ga K "Piece") "paint" := by
  obtain ⟨h, X, G, c⟩ := T
  have q := c.t.d.fact 16 (f := .noat "Piece" "paint") rfl
  exact He.noat_ok q
theorem Top.g_word_end (T : Top w K mg) : mg "word_end" = some (.ref (He.ga K "word_end")) := by
  obtain ⟨h, X, G, c⟩ := T
  have q := c.t.d.fact 17 (f := .glo "word_end") rfl
  exact He.glo_ok X G q
theorem Top.g_token_end (T : Top w K mg) : mg "token_end" = some (.ref (He.ga K "token_end")) := by
  obtain ⟨h, X, G, c⟩ := T
  have q := c.t.d.fact 18 (f := .glo "token_end") rfl
  exact He.glo_ok X G q
theorem Top.g_pieces_of (T : Top w K mg) : mg "pieces_of" = some (.ref (He.ga K "pieces_of")) := by
  obtain ⟨h, X, G, c⟩ := T
  have q := c.t.d.fact 19 (f := .glo "pieces_of") rfl
  exact He.glo_ok X G q
theorem Top.g_is_apart (T : Top w K mg) : mg "is_apart" = some (.ref (He.ga K "is_apart")) := by
  obtain ⟨h, X, G, c⟩ := T
  have q := c.t.d.fact 20 (f := .glo "is_apart") rfl
  exact He.glo_ok X G q
theorem Top.g_written (T : Top w K mg) : mg "written" = some (.ref (He.ga K "written")) := by
  obtain ⟨h, X, G, c⟩ := T
  have q := c.t.d.fact 21 (f := .glo "written") rfl
  exact He.glo_ok X G q
theorem Top.g__law_cell (T : Top w K mg) : mg "_law_cell" = some (.ref (He.ga K "_law_cell")) := by
  obtain ⟨h, X, G, c⟩ := T
  have q := c.t.d.fact 22 (f := .glo "_law_cell") rfl
  exact He.glo_ok X G q
theorem Top.g__law_bag (T : Top w K mg) : mg "_law_bag" = some (.ref (He.ga K "_law_bag")) := by
  obtain ⟨h, X, G, c⟩ := T
  have q := c.t.d.fact 23 (f := .glo "_law_bag") rfl
  exact He.glo_ok X G q
theorem Top.g__law_take (T : Top w K mg) : mg "_law_take" = some (.ref (He.ga K "_law_take")) := by
  obtain ⟨h, X, G, c⟩ := T
  have q := c.t.d.fact 24 (f := .glo "_law_take") rfl
  exact He.glo_ok X G q
theorem Top.g__law_token (T : Top w K mg) : mg "_law_token" = some (.ref (He.ga K "_law_token")) := by
  obtain ⟨h, X, G, c⟩ := T
  have q := c.t.d.fact 25 (f := .glo "_law_token") rfl
  exact He.glo_ok X G q
theorem Top.g__law_tokens (T : Top w K mg) : mg "_law_tokens" = some (.ref (He.ga K "_law_tokens")) := by
  obtain ⟨h, X, G, c⟩ := T
  have q := c.t.d.fact 26 (f := .glo "_law_tokens") rfl
  exact He.glo_ok X G q
theorem Top.g__law_parts (T : Top w K mg) : mg "_law_parts" = some (.ref (He.ga K "_law_parts")) := by
  obtain ⟨h, X, G, c⟩ := T
  have q := c.t.d.fact 27 (f := .glo "_law_parts") rfl
  exact He.glo_ok X G q
theorem Top.g__law_due (T : Top w K mg) : mg "_law_due" = some (.ref (He.ga K "_law_due")) := by
  obtain ⟨h, X, G, c⟩ := T
  have q := c.t.d.fact 28 (f := .glo "_law_due") rfl
  exact He.glo_ok X G q
theorem Top.g__law_right (T : Top w K mg) : mg "_law_right" = some (.ref (He.ga K "_law_right")) := by
  obtain ⟨h, X, G, c⟩ := T
  have q := c.t.d.fact 29 (f := .glo "_law_right") rfl
  exact He.glo_ok X G q
theorem Top.g_law (T : Top w K mg) : mg "law" = some (.ref (He.ga K "law")) := by
  obtain ⟨h, X, G, c⟩ := T
  have q := c.t.d.fact 30 (f := .glo "law") rfl
  exact He.glo_ok X G q
theorem Top.n_isinstance (T : Top w K mg) : mg "isinstance" = none := by
  obtain ⟨h, X, G, c⟩ := T
  have q := c.t.d.fact 31 (f := .free "isinstance") rfl
  exact He.free_ok X G q
theorem Top.n_len (T : Top w K mg) : mg "len" = none := by
  obtain ⟨h, X, G, c⟩ := T
  have q := c.t.d.fact 32 (f := .free "len") rfl
  exact He.free_ok X G q
theorem Top.n_str (T : Top w K mg) : mg "str" = none := by
  obtain ⟨h, X, G, c⟩ := T
  have q := c.t.d.fact 33 (f := .free "str") rfl
  exact He.free_ok X G q
theorem Top.n_tuple (T : Top w K mg) : mg "tuple" = none := by
  obtain ⟨h, X, G, c⟩ := T
  have q := c.t.d.fact 34 (f := .free "tuple") rfl
  exact He.free_ok X G q
theorem Top.n_range (T : Top w K mg) : mg "range" = none := by
  obtain ⟨h, X, G, c⟩ := T
  have q := c.t.d.fact 35 (f := .free "range") rfl
  exact He.free_ok X G q
theorem Top.n_abs (T : Top w K mg) : mg "abs" = none := by
  obtain ⟨h, X, G, c⟩ := T
  have q := c.t.d.fact 36 (f := .free "abs") rfl
  exact He.free_ok X G q
theorem Top.n_min (T : Top w K mg) : mg "min" = none := by
  obtain ⟨h, X, G, c⟩ := T
  have q := c.t.d.fact 37 (f := .free "min") rfl
  exact He.free_ok X G q
theorem Top.n_int (T : Top w K mg) : mg "int" = none := by
  obtain ⟨h, X, G, c⟩ := T
  have q := c.t.d.fact 38 (f := .free "int") rfl
  exact He.free_ok X G q
theorem Top.n_enumerate (T : Top w K mg) : mg "enumerate" = none := by
  obtain ⟨h, X, G, c⟩ := T
  have q := c.t.d.fact 39 (f := .free "enumerate") rfl
  exact He.free_ok X G q
theorem Top.n_list (T : Top w K mg) : mg "list" = none := by
  obtain ⟨h, X, G, c⟩ := T
  have q := c.t.d.fact 40 (f := .free "list") rfl
  exact He.free_ok X G q
theorem Top.n_max (T : Top w K mg) : mg "max" = none := by
  obtain ⟨h, X, G, c⟩ := T
  have q := c.t.d.fact 41 (f := .free "max") rfl
  exact He.free_ok X G q
theorem Top.n_ValueError (T : Top w K mg) : mg "ValueError" = none := by
  obtain ⟨h, X, G, c⟩ := T
  have q := c.t.d.fact 42 (f := .free "ValueError") rfl
  exact He.free_ok X G q
theorem Top.ci_Piece (T : Top w K mg) : ClsI K (He.ga K "Piece") := by
  obtain ⟨h, X, G, c⟩ := T
  have q := c.more
  unfold exB at q
  replace q := (He.ba q).1
  exact clsIB_ok q
theorem Top.kc_Piece_Piece (T : Top w K mg) : PySem.W.kitOne K (.ref (He.ga K "Piece")) (.ref (He.ga K "Piece")) = some true := by
  obtain ⟨h, X, G, c⟩ := T
  have q := c.more
  unfold exB at q
  replace q := (He.ba q).2
  replace q := (He.ba q).1
  exact of_decide_eq_true q
theorem Top.dfl_Piece_init_0 (T : Top w K mg) : ∀ H : Hp, SqT K H (He.dflAt ("Piece", some "__init__") 0 K) [] := by
  obtain ⟨h, X, G, c⟩ := T
  have q := c.more
  unfold exB at q
  replace q := (He.ba q).2
  replace q := (He.ba q).2
  replace q := (He.ba q).1
  exact fun H => tupA_ok q H
theorem Top.tup_PAIRS (T : Top w K mg) : ∀ H : Hp, SqT K H (He.ga K "PAIRS") [V.str "==", V.str "!=", V.str "<=", V.str ">=", V.str "&&", V.str "||", V.str "->"] := by
  obtain ⟨h, X, G, c⟩ := T
  have q := c.more
  unfold exB at q
  replace q := (He.ba q).2
  replace q := (He.ba q).2
  replace q := (He.ba q).2
  replace q := (He.ba q).1
  exact fun H => He.tupB_ok q H
theorem Top.f__wall (T : Top w K mg) : ∃ fd : FuncData, FunD K "_wall" "_wall" (defArgs st__wall) (defBody st__wall) (defScope st__wall) (dd__wall.dvs K) (dd__wall.kws K) (He.ga K "_wall") fd := by
  obtain ⟨h, X, G, c⟩ := T
  exact c.t.d.def_ 0 (d := dd__wall) rfl
theorem Top.f_Unread_init (T : Top w K mg) : ∃ fd : FuncData, FunD K "__init__" "Unread.__init__" (defArgs st_Unread_init) (defBody st_Unread_init) (defScope st_Unread_init) (dd_Unread_init.dvs K) (dd_Unread_init.kws K) (He.ma K (He.ga K "Unread") "__init__") fd := by
  obtain ⟨h, X, G, c⟩ := T
  exact c.t.d.def_ 1 (d := dd_Unread_init) rfl
theorem Top.f_Piece_init (T : Top w K mg) : ∃ fd : FuncData, FunD K "__init__" "Piece.__init__" (defArgs st_Piece_init) (defBody st_Piece_init) (defScope st_Piece_init) (dd_Piece_init.dvs K) (dd_Piece_init.kws K) (He.ma K (He.ga K "Piece") "__init__") fd := by
  obtain ⟨h, X, G, c⟩ := T
  exact c.t.d.def_ 2 (d := dd_Piece_init) rfl
theorem Top.f_Piece_eq (T : Top w K mg) : ∃ fd : FuncData, FunD K "__eq__" "Piece.__eq__" (defArgs st_Piece_eq) (defBody st_Piece_eq) (defScope st_Piece_eq) (dd_Piece_eq.dvs K) (dd_Piece_eq.kws K) (He.ma K (He.ga K "Piece") "__eq__") fd := by
  obtain ⟨h, X, G, c⟩ := T
  exact c.t.d.def_ 3 (d := dd_Piece_eq) rfl
theorem Top.f_Piece_len (T : Top w K mg) : ∃ fd : FuncData, FunD K "__len__" "Piece.__len__" (defArgs st_Piece_len) (defBody st_Piece_len) (defScope st_Piece_len) (dd_Piece_len.dvs K) (dd_Piece_len.kws K) (He.ma K (He.ga K "Piece") "__len__") fd := by
  obtain ⟨h, X, G, c⟩ := T
  exact c.t.d.def_ 4 (d := dd_Piece_len) rfl
theorem Top.f_Piece_str (T : Top w K mg) : ∃ fd : FuncData, FunD K "__str__" "Piece.__str__" (defArgs st_Piece_str) (defBody st_Piece_str) (defScope st_Piece_str) (dd_Piece_str.dvs K) (dd_Piece_str.kws K) (He.ma K (He.ga K "Piece") "__str__") fd := by
  obtain ⟨h, X, G, c⟩ := T
  exact c.t.d.def_ 5 (d := dd_Piece_str) rfl
theorem Top.f_Piece_repr (T : Top w K mg) : ∃ fd : FuncData, FunD K "__repr__" "Piece.__repr__" (defArgs st_Piece_repr) (defBody st_Piece_repr) (defScope st_Piece_repr) (dd_Piece_repr.dvs K) (dd_Piece_repr.kws K) (He.ma K (He.ga K "Piece") "__repr__") fd := by
  obtain ⟨h, X, G, c⟩ := T
  exact c.t.d.def_ 6 (d := dd_Piece_repr) rfl
theorem Top.f_Piece_stands (T : Top w K mg) : ∃ fd : FuncData, FunD K "stands" "Piece.stands" (defArgs st_Piece_stands) (defBody st_Piece_stands) (defScope st_Piece_stands) (dd_Piece_stands.dvs K) (dd_Piece_stands.kws K) (He.ma K (He.ga K "Piece") "stands") fd := by
  obtain ⟨h, X, G, c⟩ := T
  exact c.t.d.def_ 7 (d := dd_Piece_stands) rfl
theorem Top.f_word_end (T : Top w K mg) : ∃ fd : FuncData, FunD K "word_end" "word_end" (defArgs st_word_end) (defBody st_word_end) (defScope st_word_end) (dd_word_end.dvs K) (dd_word_end.kws K) (He.ga K "word_end") fd := by
  obtain ⟨h, X, G, c⟩ := T
  exact c.t.d.def_ 8 (d := dd_word_end) rfl
theorem Top.f_token_end (T : Top w K mg) : ∃ fd : FuncData, FunD K "token_end" "token_end" (defArgs st_token_end) (defBody st_token_end) (defScope st_token_end) (dd_token_end.dvs K) (dd_token_end.kws K) (He.ga K "token_end") fd := by
  obtain ⟨h, X, G, c⟩ := T
  exact c.t.d.def_ 9 (d := dd_token_end) rfl
theorem Top.f_pieces_of (T : Top w K mg) : ∃ fd : FuncData, FunD K "pieces_of" "pieces_of" (defArgs st_pieces_of) (defBody st_pieces_of) (defScope st_pieces_of) (dd_pieces_of.dvs K) (dd_pieces_of.kws K) (He.ga K "pieces_of") fd := by
  obtain ⟨h, X, G, c⟩ := T
  exact c.t.d.def_ 10 (d := dd_pieces_of) rfl
theorem Top.f_is_apart (T : Top w K mg) : ∃ fd : FuncData, FunD K "is_apart" "is_apart" (defArgs st_is_apart) (defBody st_is_apart) (defScope st_is_apart) (dd_is_apart.dvs K) (dd_is_apart.kws K) (He.ga K "is_apart") fd := by
  obtain ⟨h, X, G, c⟩ := T
  exact c.t.d.def_ 11 (d := dd_is_apart) rfl
theorem Top.f_written (T : Top w K mg) : ∃ fd : FuncData, FunD K "written" "written" (defArgs st_written) (defBody st_written) (defScope st_written) (dd_written.dvs K) (dd_written.kws K) (He.ga K "written") fd := by
  obtain ⟨h, X, G, c⟩ := T
  exact c.t.d.def_ 12 (d := dd_written) rfl
theorem Top.f__law_cell (T : Top w K mg) : ∃ fd : FuncData, FunD K "_law_cell" "_law_cell" (defArgs st__law_cell) (defBody st__law_cell) (defScope st__law_cell) (dd__law_cell.dvs K) (dd__law_cell.kws K) (He.ga K "_law_cell") fd := by
  obtain ⟨h, X, G, c⟩ := T
  exact c.t.d.def_ 13 (d := dd__law_cell) rfl
theorem Top.f__law_bag (T : Top w K mg) : ∃ fd : FuncData, FunD K "_law_bag" "_law_bag" (defArgs st__law_bag) (defBody st__law_bag) (defScope st__law_bag) (dd__law_bag.dvs K) (dd__law_bag.kws K) (He.ga K "_law_bag") fd := by
  obtain ⟨h, X, G, c⟩ := T
  exact c.t.d.def_ 14 (d := dd__law_bag) rfl
theorem Top.f__law_take (T : Top w K mg) : ∃ fd : FuncData, FunD K "_law_take" "_law_take" (defArgs st__law_take) (defBody st__law_take) (defScope st__law_take) (dd__law_take.dvs K) (dd__law_take.kws K) (He.ga K "_law_take") fd := by
  obtain ⟨h, X, G, c⟩ := T
  exact c.t.d.def_ 15 (d := dd__law_take) rfl
theorem Top.f__law_token (T : Top w K mg) : ∃ fd : FuncData, FunD K "_law_token" "_law_token" (defArgs st__law_token) (defBody st__law_token) (defScope st__law_token) (dd__law_token.dvs K) (dd__law_token.kws K) (He.ga K "_law_token") fd := by
  obtain ⟨h, X, G, c⟩ := T
  exact c.t.d.def_ 16 (d := dd__law_token) rfl
theorem Top.f__law_tokens (T : Top w K mg) : ∃ fd : FuncData, FunD K "_law_tokens" "_law_tokens" (defArgs st__law_tokens) (defBody st__law_tokens) (defScope st__law_tokens) (dd__law_tokens.dvs K) (dd__law_tokens.kws K) (He.ga K "_law_tokens") fd := by
  obtain ⟨h, X, G, c⟩ := T
  exact c.t.d.def_ 17 (d := dd__law_tokens) rfl
theorem Top.f__law_parts (T : Top w K mg) : ∃ fd : FuncData, FunD K "_law_parts" "_law_parts" (defArgs st__law_parts) (defBody st__law_parts) (defScope st__law_parts) (dd__law_parts.dvs K) (dd__law_parts.kws K) (He.ga K "_law_parts") fd := by
  obtain ⟨h, X, G, c⟩ := T
  exact c.t.d.def_ 18 (d := dd__law_parts) rfl
theorem Top.f__law_due (T : Top w K mg) : ∃ fd : FuncData, FunD K "_law_due" "_law_due" (defArgs st__law_due) (defBody st__law_due) (defScope st__law_due) (dd__law_due.dvs K) (dd__law_due.kws K) (He.ga K "_law_due") fd := by
  obtain ⟨h, X, G, c⟩ := T
  exact c.t.d.def_ 19 (d := dd__law_due) rfl
theorem Top.f__law_right (T : Top w K mg) : ∃ fd : FuncData, FunD K "_law_right" "_law_right" (defArgs st__law_right) (defBody st__law_right) (defScope st__law_right) (dd__law_right.dvs K) (dd__law_right.kws K) (He.ga K "_law_right") fd := by
  obtain ⟨h, X, G, c⟩ := T
  exact c.t.d.def_ 20 (d := dd__law_right) rfl
theorem Top.f_law (T : Top w K mg) : ∃ fd : FuncData, FunD K "law" "law" (defArgs st_law) (defBody st_law) (defScope st_law) (dd_law.dvs K) (dd_law.kws K) (He.ga K "law") fd := by
  obtain ⟨h, X, G, c⟩ := T
  exact c.t.d.def_ 21 (d := dd_law) rfl
end
/-! ### names by slots -/
theorem sc__wall : FnScope ["k"] ["k"] (defScope st__wall) := ⟨rfl, rfl, rfl, by decide +kernel, rfl, by decide +kernel, by decide +kernel⟩
theorem sc_Unread_init : FnScope ["self", "place"] ["self", "place"] (defScope st_Unread_init) := ⟨rfl, rfl, rfl, by decide +kernel, rfl, by decide +kernel, by decide +kernel⟩
theorem sc_Piece_init : FnScope ["self", "text", "signs", "paint"] ["self", "text", "signs", "paint"] (defScope st_Piece_init) := ⟨rfl, rfl, rfl, by decide +kernel, rfl, by decide +kernel, by decide +kernel⟩
theorem sc_Piece_eq : FnScope ["self", "other"] ["self", "other"] (defScope st_Piece_eq) := ⟨rfl, rfl, rfl, by decide +kernel, rfl, by decide +kernel, by decide +kernel⟩
theorem sc_Piece_len : FnScope ["self"] ["self"] (defScope st_Piece_len) := ⟨rfl, rfl, rfl, by decide +kernel, rfl, by decide +kernel, by decide +kernel⟩
theorem sc_Piece_str : FnScope ["self"] ["self"] (defScope st_Piece_str) := ⟨rfl, rfl, rfl, by decide +kernel, rfl, by decide +kernel, by decide +kernel⟩
theorem sc_Piece_repr : FnScope ["self"] ["self"] (defScope st_Piece_repr) := ⟨rfl, rfl, rfl, by decide +kernel, rfl, by decide +kernel, by decide +kernel⟩
theorem sc_Piece_stands : FnScope ["self"] ["self"] (defScope st_Piece_stands) := ⟨rfl, rfl, rfl, by decide +kernel, rfl, by decide +kernel, by decide +kernel⟩
theorem sc_word_end : FnScope ["row", "at", "end"] ["row", "at"] (defScope st_word_end) := ⟨rfl, rfl, rfl, by decide +kernel, rfl, by decide +kernel, by decide +kernel⟩
theorem sc_token_end : FnScope ["row", "at", "sign", "closing"] ["row", "at"] (defScope st_token_end) := ⟨rfl, rfl, rfl, by decide +kernel, rfl, by decide +kernel, by decide +kernel⟩
theorem sc_pieces_of : FnScope ["row", "page", "number", "found", "at", "end", "column"] ["row", "page", "number"] (defScope st_pieces_of) := ⟨rfl, rfl, rfl, by decide +kernel, rfl, by decide +kernel, by decide +kernel⟩
theorem sc_is_apart : FnScope ["one", "other"] ["one", "other"] (defScope st_is_apart) := ⟨rfl, rfl, rfl, by decide +kernel, rfl, by decide +kernel, by decide +kernel⟩
theorem sc_written : FnScope ["pieces", "text", "last", "piece"] ["pieces"] (defScope st_written) := ⟨rfl, rfl, rfl, by decide +kernel, rfl, by decide +kernel, by decide +kernel⟩
theorem sc__law_cell : FnScope ["_law_script", "_law_k"] ["_law_script", "_law_k"] (defScope st__law_cell) := ⟨rfl, rfl, rfl, by decide +kernel, rfl, by decide +kernel, by decide +kernel⟩
theorem sc__law_bag : FnScope ["_law_script", "_law_at", "_law_cell_here", "_law_mix", "_law_k"] ["_law_script", "_law_at"] (defScope st__law_bag) := ⟨rfl, rfl, rfl, by decide +kernel, rfl, by decide +kernel, by decide +kernel⟩
theorem sc__law_take : FnScope ["_law_bag_here", "_law_many", "_law_digit"] ["_law_bag_here", "_law_many"] (defScope st__law_take) := ⟨rfl, rfl, rfl, by decide +kernel, rfl, by decide +kernel, by decide +kernel⟩
theorem sc__law_token : FnScope ["_law_bag_here", "_law_signs", "_law_letters", "_law_way", "_law_k"] ["_law_bag_here"] (defScope st__law_token) := ⟨rfl, rfl, rfl, by decide +kernel, rfl, by decide +kernel, by decide +kernel⟩
theorem sc__law_tokens : FnScope ["_law_bag_here", "_law_often", "_law_some", "_law_k", "_law_found", "_law_size", "_law_token_here"] ["_law_bag_here"] (defScope st__law_tokens) := ⟨rfl, rfl, rfl, by decide +kernel, rfl, by decide +kernel, by decide +kernel⟩
theorem sc__law_parts : FnScope ["_law_one", "_law_other", "_law_letters"] ["_law_one", "_law_other"] (defScope st__law_parts) := ⟨rfl, rfl, rfl, by decide +kernel, rfl, by decide +kernel, by decide +kernel⟩
theorem sc__law_due : FnScope ["_law_tokens_here", "_law_text", "_law_at", "_law_token_here"] ["_law_tokens_here"] (defScope st__law_due) := ⟨rfl, rfl, rfl, by decide +kernel, rfl, by decide +kernel, by decide +kernel⟩
theorem sc__law_right : FnScope ["_law_tokens_here", "_law_made", "_law_group", "_law_kept", "_law_found", "_law_again", "_law_token_here", "_law_k", "_law_piece"] ["_law_tokens_here", "_law_made"] (defScope st__law_right) := ⟨rfl, rfl, rfl, by decide +kernel, rfl, by decide +kernel, by decide +kernel⟩
theorem sc_law : FnScope ["_law_script", "_law_k", "_law_bag_here", "_law_made"] ["_law_script"] (defScope st_law) := ⟨rfl, rfl, rfl, by decide +kernel, rfl, by decide +kernel, by decide +kernel⟩
end Z

namespace Z
open PySem PySem.Spec PyProof.Rows L2
/-! ### tokens: word_end, token_end -/
def sp_word_end : Sp := fun vs H Q _ => ∃ (z : Str) (i : Int), vs = [.str z, .int i] ∧ z.length ≤ sizeLine ∧ 0 ≤ i ∧ i ≤ z.length ∧ Q (.int (i + (wE ((cl z).drop i.toNat) : Nat))) H
theorem wE_drop {l : List Nat} {e : Nat} {c : Nat} (h : l[e]? = some c) : wE (l.drop e) = if isLF c = true then wE (l.drop (e + 1)) + 1 else 0 := by
  obtain ⟨h1, h2⟩ := List.getElem?_eq_some_iff.mp h
  rw [List.drop_eq_getElem_cons h1, h2]
  by_cases q : isLF c = true
  · rw [if_pos q, wE_pos q]
  · rw [if_neg q, wE_neg q]
theorem wE_end {l : List Nat} {e : Nat} (h : l.length ≤ e) : wE (l.drop e) = 0 := by
  rw [List.drop_eq_nil_of_le h]; rfl
theorem ok_word_end {P : Program} {w : World} {K : PySem.W.Frag} {mg : Str → Option Value} (T : Top w K mg) : ∃ fd : FuncData, FunD K "word_end" "word_end" (defArgs st_word_end) (defBody st_word_end) (defScope st_word_end) (dd_word_end.dvs K) (dd_word_end.kws K) (He.ga K "word_end") fd ∧ ∀ base : Heap, FnOk P w K mg base CX0 1 (He.ga K "word_end") fd ["row", "at"] sp_word_end := by
  obtain ⟨fd, F⟩ := T.f_word_end
  refine ⟨fd, F, fun base => F.ok sc_word_end (fun vs H Q E h => by obtain ⟨_, _, rfl, _⟩ := h; rfl) (fun cdv A outer s H vs Q E hr h => ⟨_, PSs.nox
 ((pss_cons (ps_set (i := 2) sc_word_end.nd rfl (Or.inl rfl) (pv 1))
 (pss_cons (ps_while PassesOwn.never (PW.pt (pw_and (pt_cmpR op_lt (pv 2) (pe_callB call_len_str (by rfl) T.n_len (by decide +kernel) (pa_cons (pv 0) pa_nil)) (nomark _)) (pw_and1 (PW.pt (pw_or (pt_cmpR op_in_sign (pe_ix ix_str (pv 0) (pv 2) (fun _ _ => rfl)) (pe_gs T.s_LETTERS) (by rfl)) (pw_or1 (pt_cmpR op_in_sign (pe_ix ix_str (pv 0) (pv 2) (fun _ _ => rfl)) (pe_gs T.s_FIGURES) (by rfl))))))))
 (pss_one (ps_aug (i := 2) sc_word_end.nd rfl (Or.inl rfl) pe_int iop_add)))
 (pss_one (ps_ret (pv 2)))))), ?_⟩)⟩
  obtain ⟨z, i, rfl, hz, h0, h1, kQ⟩ := h
  have hcl := cl_len z
  refine ⟨_, rfl, fun m σ H' => H' = H ∧ ∃ e : Nat, σ = [some (.str z), some (.int i), some (.int e)] ∧ i ≤ e ∧ e ≤ z.length ∧ m = z.length - e ∧ (i + (wE ((cl z).drop i.toNat) : Nat) : Int) = e + (wE ((cl z).drop e) : Nat), ⟨_, rfl, i.toNat, (by show [_, _, some (V.int i)] = _; rw [Int.toNat_of_nonneg h0]), by omega, by omega, rfl, by omega⟩, ?_⟩
  rintro m σ H' ⟨rfl, e, rfl, e0, e1, rfl, ee⟩
  have fin : wE ((cl z).drop e) = 0 → (Q (.int e) H' : Prop) := fun q => by
    have e2 : (i + (wE ((cl z).drop i.toNat) : Nat) : Int) = e := by rw [ee, q]; omega
    rw [← e2]; exact kQ
  refine ⟨_, rfl, _, rfl, z, rfl, hz, _, _, rfl, rfl, _, rfl, ?_⟩
  refine iteD (fun c => ?_) (fun c => ?_)
  · have c' : e < (cl z).length := by omega
    have hx : (cl z)[e]? = some ((cl z)[e]) := List.getElem?_eq_getElem c'
    have hd := wE_drop hx
    have go : isLF (cl z)[e] = true → (∃ m', m' < z.length - e ∧ H' = H' ∧ ∃ e2 : Nat, [some (V.str z), some (.int i), some (.int ((e : Int) + 1))] = [some (V.str z), some (.int i), some (.int e2)] ∧ i ≤ e2 ∧ e2 ≤ z.length ∧ m' = z.length - e2 ∧ (i + (wE ((cl z).drop i.toNat) : Nat) : Int) = e2 + (wE ((cl z).drop e2) : Nat)) := fun q => by
      rw [if_pos q] at hd
      exact ⟨_, by omega, rfl, e + 1, rfl, by omega, by omega, rfl, by omega⟩
    refine ⟨_, rfl, _, rfl, z, _, _, rfl, rfl, hz, atI_nat hx, _, _, rfl, rfl, _, rfl, ?_⟩
    refine iteB (fun a => ?_) (fun a => ?_)
    · exact ⟨_, fun _ _ h => h, _, rfl, _, _, rfl, rfl, go (by unfold isLF; rw [show isL _ = true from a]; rfl)⟩
    · refine ⟨_, rfl, _, rfl, z, _, _, rfl, rfl, hz, atI_nat hx, _, _, rfl, rfl, _, rfl, ?_⟩
      refine iteB (fun b => ?_) (fun b => ?_)
      · exact ⟨_, fun _ _ h => h, _, rfl, _, _, rfl, rfl, go (by unfold isLF; rw [show isF _ = true from b, Bool.or_true])⟩
      · have nq : isLF (cl z)[e] = false := by unfold isLF; rw [show isF _ = false from b, show isL _ = false from a]; rfl
        rw [nq, if_neg (by decide)] at hd
        exact ⟨_, rfl, fin hd⟩
  · exact ⟨_, rfl, fin (wE_end (by omega))⟩
theorem cal_word_end {P : Program} {w : World} {K : PySem.W.Frag} {mg : Str → Option Value} {base : Heap} (T : Top w K mg) : Callee P w K mg base CX0 1 "word_end" sp_word_end [] := by
  obtain ⟨fd, F, S⟩ := ok_word_end (P := P) T
  exact ⟨fd, _, [], S base, T.g_word_end, F.kp, F.bindsN (fun _ _ _ _ _ _ us hl => match us, hl with | [_, _], _ => rfl), .nil⟩

def ofTok (i : Int) : Option Nat → V
  | none => .non
  | some n => .int (i + (n : Nat))
def sp_token_end : Sp := fun vs H Q _ => ∃ (z : Str) (i : Nat), vs = [.str z, .int i] ∧ z.length ≤ sizeLine ∧ i < z.length ∧ Q (ofTok i (tokLen ((cl z).drop i))) H
theorem getD_drop (l : List Nat) (i v : Nat) : (l.drop i).getD v 0 = l.getD (i + v) 0 := by
  rw [List.getD_eq_getElem?_getD, List.getD_eq_getElem?_getD, List.getElem?_drop]
theorem getD_cl (z : Str) (v : Nat) : z.cps.getD v 0 = (cl z).getD v 0 := by
  rw [List.getD_eq_getElem?_getD, Array.getElem?_toList, Array.getD_eq_getD_getElem?]
theorem from_nat {n k : Nat} : PySem.fromIndex n (k : Int) = k := by
  unfold PySem.fromIndex
  rw [if_neg (by omega)]; omega
theorem find_q (z : Str) (i : Nat) (hi : i < z.length) : Txt.find3 z ("\"" : Str) ((i : Int) + 1) = match qAt ((cl z).drop (i + 1)) with | none => -1 | some k => (i : Int) + 1 + (k : Nat) := by
  have hcl := cl_len z
  have e0 : (((i + 1 : Nat)) : Int) = (i : Int) + 1 := rfl
  have es : ("\"" : Str) = ⟨#[34]⟩ := by decide +kernel
  rw [es, ← e0]
  rcases PySem.StrLaws.find3_spec z 34 ((i + 1 : Nat) : Int) with ⟨h1, h2⟩ | ⟨k, h1, h2, h3, h4, h5⟩
  · rw [h1, qAt_none (l := (cl z).drop (i + 1)) fun v hv => by
      rw [List.length_drop] at hv
      rw [getD_drop, ← getD_cl]
      exact h2 _ (by rw [from_nat]; omega) (by omega)]
  · rw [from_nat] at h2
    rw [h1, qAt_some (l := (cl z).drop (i + 1)) (k := k - (i + 1)) (by rw [List.length_drop]; omega) (by rw [getD_drop, ← getD_cl, show i + 1 + (k - (i + 1)) = k by omega]; exact h4) fun v hv => by
      rw [getD_drop, ← getD_cl]
      exact h5 _ (by rw [from_nat]; omega) (by omega)]
    show (k : Int) = (i : Int) + 1 + ((k - (i + 1) : Nat) : Int)
    omega
theorem cut2 (z : Str) (i : Nat) : cl (cutS z (some (i : Int)) (some ((i : Int) + 2))) = ((cl z).drop i).take 2 := by
  have e : ((i : Int) + 2) = ((i + 2 : Nat) : Int) := rfl
  show (((cl z).drop (HT.sIx z.length 0 (some (i : Int)))).take (HT.sIx z.length z.length (some ((i : Int) + 2)) - HT.sIx z.length 0 (some (i : Int)))) = _
  rw [e, HT.sIx_nat, HT.sIx_nat]
  have hcl := cl_len z
  by_cases h : i ≤ z.length
  · rw [Nat.min_eq_left h]
    by_cases h2 : i + 2 ≤ z.length
    · rw [Nat.min_eq_left h2, show i + 2 - i = 2 by omega]
    · rw [Nat.min_eq_right (by omega), List.take_of_length_le (by rw [List.length_drop]; omega), List.take_of_length_le (by rw [List.length_drop]; omega)]
  · rw [Nat.min_eq_right (by omega), Nat.min_eq_right (by omega), show (cl z).drop z.length = [] from List.drop_eq_nil_of_le (by omega), show (cl z).drop i = [] from List.drop_eq_nil_of_le (by omega)]
    simp
theorem in_prs (z : Str) : inV (.str z) [.str "==", .str "!=", .str "<=", .str ">=", .str "&&", .str "||", .str "->"] = decide (cl z ∈ prs) := by
  have q : ∀ y : Str, eqV (.str y) (.str z) = decide (cl z = cl y) := fun y => by
    show (y == z) = _
    rw [Bool.eq_iff_iff]
    simp only [beq_iff_eq, decide_eq_true_eq]
    rw [str_eq]; exact ⟨Eq.symm, Eq.symm⟩
  unfold inV prs
  simp only [List.any_cons, List.any_nil, q, Bool.or_false, List.mem_cons, List.not_mem_nil, or_false, Bool.decide_or]
  have e1 : cl ("==" : Str) = [61, 61] := by decide +kernel
  have e2 : cl ("!=" : Str) = [33, 61] := by decide +kernel
  have e3 : cl ("<=" : Str) = [60, 61] := by decide +kernel
  have e4 : cl (">=" : Str) = [62, 61] := by decide +kernel
  have e5 : cl ("&&" : Str) = [38, 38] := by decide +kernel
  have e6 : cl ("||" : Str) = [124, 124] := by decide +kernel
  have e7 : cl ("->" : Str) = [45, 62] := by decide +kernel
  rw [e1, e2, e3, e4, e5, e6, e7]
theorem ok_token_end {P : Program} {w : World} {K : PySem.W.Frag} {mg : Str → Option Value} (T : Top w K mg) : ∃ fd : FuncData, FunD K "token_end" "token_end" (defArgs st_token_end) (defBody st_token_end) (defScope st_token_end) (dd_token_end.dvs K) (dd_token_end.kws K) (He.ga K "token_end") fd ∧ ∀ base : Heap, FnOk P w K mg base CX0 2 (He.ga K "token_end") fd ["row", "at"] sp_token_end := by
  obtain ⟨fd, F⟩ := T.f_token_end
  refine ⟨fd, F, fun base => F.ok sc_token_end (fun vs H Q E h => by obtain ⟨_, _, rfl, _⟩ := h; rfl) (fun cdv A outer s H vs Q E hr h => ⟨_, PSs.nox
 ((pss_cons (ps_set (i := 2) sc_token_end.nd rfl (Or.inl rfl) (pe_ix ix_str (pv 0) (pv 1) (fun _ _ => rfl)))
 (pss_cons (ps_if (pt_cmpR op_eq (pv 2) pe_str (nomark _))
 (pss_cons (ps_set (i := 3) sc_token_end.nd rfl (Or.inl rfl) (pe_bm PySem.F.plainAttrs_str PySem.F.slot_str_find PySem.F.type_str_find mt_find3 (pv 0) (pa_cons pe_str (pa_cons (pe_op op_add (pv 1) pe_int) pa_nil))))
 (pss_one (ps_ret (pe_ifExp (pt_cmpR op_lt (pv 3) pe_int (nomark _)) pe_non (pe_op op_add (pv 3) pe_int)))))
 pss_nil)
 (pss_cons (ps_if (PW.pt (pw_or (pt_cmpR op_in_sign (pv 2) (pe_gs T.s_LETTERS) (by rfl)) (pw_or1 (pt_cmpR op_in_sign (pv 2) (pe_gs T.s_FIGURES) (by rfl)))))
 (pss_one (ps_ret (pc (cal_word_end T) hr (by decide) L2.pass0 rfl (pa_cons (pv 0) (pa_cons (pv 1) pa_nil)))))
 pss_nil)
 (pss_one (ps_ret (pe_ifExp (pt_cmpR op_in_seq (pe_slice sl_str (pv 0) (po_some (pv 1)) (po_some (pe_op op_add (pv 1) pe_int))) (pe_gr T.g_PAIRS) (by rfl)) (pe_op op_add (pv 1) pe_int) (pe_op op_add (pv 1) pe_int)))))))), ?_⟩)⟩
  obtain ⟨z, i, rfl, hz, hi, kQ⟩ := h
  have hcl := cl_len z
  have hi' : i < (cl z).length := by omega
  obtain ⟨c, r, hd⟩ : ∃ c r, (cl z).drop i = c :: r := ⟨_, _, List.drop_eq_getElem_cons hi'⟩
  have hx : (cl z)[i]? = some c := by
    have q : ((cl z).drop i)[0]? = some c := by rw [hd]; rfl
    rwa [List.getElem?_drop, Nat.add_zero] at q
  have hr1 : (cl z).drop (i + 1) = r := by
    have q : ((cl z).drop i).drop 1 = r := by rw [hd]; rfl
    rwa [List.drop_drop] at q
  have hc1 : ∀ y : Str, y.length = 1 → (decide (V.str ⟨#[c]⟩ = V.str y)) = decide (c = (cl y).getD 0 0) := fun y hy => by
    rw [decide_eq_decide, V.str.injEq, str_eq]
    have hyl := cl_len y
    show [c] = cl y ↔ _
    cases e : cl y with
    | nil => rw [e] at hyl; simp at hyl; omega
    | cons a b =>
      have hb : b = [] := by rw [e] at hyl; simp at hyl; exact List.eq_nil_of_length_eq_zero (by omega)
      subst hb
      simp
  rw [hd, tokLen_cons] at kQ
  refine ⟨_, rfl, _, rfl, z, _, _, rfl, rfl, hz, atI_nat hx, _, rfl, rfl, _, rfl, ?_⟩
  rw [hc1 _ (by decide +kernel), show (cl ("\"" : Str)).getD 0 0 = 34 by decide +kernel]
  refine iteD (fun c34 => ?_) (fun c34 => ?_)
  · rw [if_pos c34] at kQ
    refine ⟨_, rfl, rfl, _, rfl, _, _, rfl, rfl, z, _, _, rfl, rfl, ?_⟩
    rw [find_q z i hi, hr1]
    refine ⟨_, rfl, _, _, rfl, rfl, _, rfl, ?_⟩
    cases q : qAt r with
    | none =>
      rw [q] at kQ
      exact iteT kQ
    | some k =>
      rw [q] at kQ
      show if decide ((i : Int) + 1 + (k : Int) < 0) = true then _ else _
      refine iteD (fun h => absurd h (by omega)) (fun _ => ⟨_, rfl, _, _, rfl, rfl, ?_⟩)
      have e : (i : Int) + 1 + (k : Int) + 1 = (i : Int) + ((k + 2 : Nat) : Int) := by omega
      show Q (.int ((i : Int) + 1 + (k : Int) + 1)) H
      rw [e]; exact kQ
  · rw [if_neg c34] at kQ
    have wcall : isLF c = true → (sp_word_end ([V.str z, V.int i] ++ []) H Q E : Prop) := fun q => by
      rw [if_pos q] at kQ
      refine ⟨z, i, rfl, hz, by omega, by omega, ?_⟩
      rw [Int.toNat_natCast, hd, wE_pos q]; exact kQ
    refine ⟨_, rfl, _, _, rfl, rfl, _, rfl, ?_⟩
    refine iteB (fun a => ?_) (fun a => ?_)
    · exact ⟨_, rfl, _, rfl, wcall (by unfold isLF; rw [show isL _ = true from a]; rfl)⟩
    · refine ⟨_, rfl, _, _, rfl, rfl, _, rfl, ?_⟩
      refine iteB (fun b => ?_) (fun b => ?_)
      · exact ⟨_, rfl, _, rfl, wcall (by unfold isLF; rw [show isF _ = true from b, Bool.or_true])⟩
      · have nq : ¬ isLF c = true := by unfold isLF; rw [show isF _ = false from b, show isL _ = false from a]; decide
        rw [if_neg nq] at kQ
        refine ⟨_, rfl, _, rfl, _, rfl, _, rfl, _, _, rfl, rfl, _, rfl, z, rfl, hz, _, _, rfl, .inr (T.tup_PAIRS H), rfl, rfl, _, rfl, ?_⟩
        have ep := in_prs (cutS z (some (i : Int)) (some ((i : Int) + 2)))
        rw [cut2, hd] at ep
        show if inV _ _ = true then _ else _
        rw [show inV _ _ = _ from ep]
        refine iteD (fun p => ?_) (fun p => ?_)
        · rw [if_pos p] at kQ
          exact ⟨_, rfl, _, _, rfl, rfl, kQ⟩
        · rw [if_neg p] at kQ
          exact ⟨_, rfl, _, _, rfl, rfl, kQ⟩
theorem cal_token_end {P : Program} {w : World} {K : PySem.W.Frag} {mg : Str → Option Value} {base : Heap} (T : Top w K mg) : Callee P w K mg base CX0 2 "token_end" sp_token_end [] := by
  obtain ⟨fd, F, S⟩ := ok_token_end (P := P) T
  exact ⟨fd, _, [], S base, T.g_token_end, F.kp, F.bindsN (fun _ _ _ _ _ _ us hl => match us, hl with | [_, _], _ => rfl), .nil⟩


end Z

namespace Z
open PySem PySem.Spec PyProof.Rows L2
/-! ### the script's cells, the bag of draws -/
def Bag (n f : Int) : Prop := (f = 0 ∧ 0 ≤ n ∧ n < 10 ^ 180) ∨ (f ≠ 0 ∧ 0 < f ∧ 0 ≤ n ∧ n < 2147483647)
def BagAt (H : Hp) (b : Addr) : Prop := ∃ n f : Int, H b = some (.lst [.int n, .int f]) ∧ Bag n f
theorem BagAt.new {H : Hp} {b p : Addr} {o : HO} (h : BagAt H b) (hp : H p = none) : BagAt (upd H p o) b := by
  obtain ⟨n, f, e, B⟩ := h
  exact ⟨n, f, upd_new hp e, B⟩
theorem BagAt.ne {H : Hp} {b p : Addr} (h : BagAt H b) (hp : H p = none) : b ≠ p := by
  obtain ⟨n, f, e, B⟩ := h
  exact ne_of_none e hp
theorem BagAt.same {H H' : Hp} {b : Addr} (h : BagAt H b) (k : Same H H') : BagAt H' b := by
  obtain ⟨n, f, e, B⟩ := h
  exact ⟨n, f, k _ _ e, B⟩
/-- a text of at most n signs comes, the bag stands -/
def spTxt (n : Nat) : Sp := fun vs H Q _ => ∃ (b : Addr), vs = [.ref b] ∧ BagAt H b ∧ ∀ (z : Str) (H' : Hp), z.length ≤ n → BagAt H' b → Keep [b] H H' → Q (.str z) H'
theorem bag_mut (b : Addr) : Mut b (fun H => BagAt H b) := ⟨fun H D o h n => by
  obtain ⟨x, f, e, B⟩ := h
  exact ⟨x, f, (upd_ne n).trans e, B⟩, fun H h => by
  obtain ⟨x, f, e, B⟩ := h
  exact ⟨_, e⟩⟩
def sp__law_cell (K : PySem.W.Frag) : Sp := fun vs H Q _ => ∃ (a : Addr) (k : Int), vs = [.ref a, .int k] ∧ (∃ ns : List Int, SqL K H a (ns.map V.int) ∧ ns.length ≤ 63) ∧ 0 ≤ k ∧ ∀ i : Int, Q (.int i) H
theorem ok__law_cell {P : Program} {w : World} {K : PySem.W.Frag} {mg : Str → Option Value} (T : Top w K mg) : ∃ fd : FuncData, FunD K "_law_cell" "_law_cell" (defArgs st__law_cell) (defBody st__law_cell) (defScope st__law_cell) (dd__law_cell.dvs K) (dd__law_cell.kws K) (He.ga K "_law_cell") fd ∧ ∀ base : Heap, FnOk P w K mg base CX0 1 (He.ga K "_law_cell") fd ["_law_script", "_law_k"] (sp__law_cell K) := by
  obtain ⟨fd, F⟩ := T.f__law_cell
  refine ⟨fd, F, fun base => F.ok sc__law_cell (fun vs H Q E h => by obtain ⟨_, _, rfl, _⟩ := h; rfl) (fun cdv A outer s H vs Q E hr h => ⟨_, PSs.nox
 ((pss_cons (ps_if (pt_cmpR op_lt (pv 1) (pe_callB call_len_seq (by rfl) T.n_len (by decide +kernel) (pa_cons (pv 0) pa_nil)) (nomark _))
 (pss_one (ps_ret (pe_ix ix_list (pv 0) (pv 1) (fun _ _ => rfl))))
 pss_nil)
 (pss_one (ps_ret pe_int)))), ?_⟩)⟩
  obtain ⟨a, k, rfl, ⟨ns, hS, hl⟩, h0, kQ⟩ := h
  refine ⟨_, rfl, _, rfl, a, _, rfl, .inl hS, _, _, rfl, rfl, _, rfl, ?_⟩
  refine iteD (fun c => ?_) (fun c => kQ 0)
  rw [List.length_map] at c
  have hk : k.toNat < ns.length := by omega
  have hx : (ns.map V.int)[k.toNat]? = some (V.int ns[k.toNat]) := by rw [List.getElem?_map, List.getElem?_eq_getElem hk]; rfl
  exact ⟨_, rfl, _, rfl, a, _, _, _, rfl, rfl, hS, at_of (by omega) hx, kQ _⟩
theorem cal__law_cell {P : Program} {w : World} {K : PySem.W.Frag} {mg : Str → Option Value} {base : Heap} (T : Top w K mg) : Callee P w K mg base CX0 1 "_law_cell" (sp__law_cell K) [] := by
  obtain ⟨fd, F, S⟩ := ok__law_cell (P := P) T
  exact ⟨fd, _, [], S base, T.g__law_cell, F.kp, F.bindsN (fun _ _ _ _ _ _ us hl => match us, hl with | [_, _], _ => rfl), .nil⟩

theorem lt180 {x : Int} : x % (10 ^ 60 * 10 ^ 60 * 10 ^ 60) < 10 ^ 180 := by
  have h := Int.emod_lt_of_pos x (show (0 : Int) < 10 ^ 60 * 10 ^ 60 * 10 ^ 60 by decide)
  have e : (10 ^ 60 * 10 ^ 60 * 10 ^ 60 : Int) = 10 ^ 180 := by decide +kernel
  rw [e] at h ⊢
  exact h
def sp__law_bag (K : PySem.W.Frag) : Sp := fun vs H Q _ => ∃ (a : Addr) (k : Int), vs = [.ref a, .int k] ∧ (∃ ns : List Int, SqL K H a (ns.map V.int) ∧ ns.length ≤ 63) ∧ 0 ≤ k ∧ ∀ (p : Addr) (n f : Int), H p = none → Bag n f → Q (.ref p) (upd H p (.lst [.int n, .int f]))
theorem ok__law_bag {P : Program} {w : World} {K : PySem.W.Frag} {mg : Str → Option Value} (T : Top w K mg) : ∃ fd : FuncData, FunD K "_law_bag" "_law_bag" (defArgs st__law_bag) (defBody st__law_bag) (defScope st__law_bag) (dd__law_bag.dvs K) (dd__law_bag.kws K) (He.ga K "_law_bag") fd ∧ ∀ base : Heap, FnOk P w K mg base CX0 2 (He.ga K "_law_bag") fd ["_law_script", "_law_at"] (sp__law_bag K) := by
  obtain ⟨fd, F⟩ := T.f__law_bag
  refine ⟨fd, F, fun base => F.ok sc__law_bag (fun vs H Q E h => by obtain ⟨_, _, rfl, _⟩ := h; rfl) (fun cdv A outer s H vs Q E hr h => ⟨_, PSs.nox
 ((pss_cons (ps_set (i := 2) sc__law_bag.nd rfl (Or.inl rfl) (pe_op op_mod (pe_callB call_abs (by rfl) T.n_abs (by decide +kernel) (pa_cons (pc (cal__law_cell T) hr (by decide) L2.pass0 rfl (pa_cons (pv 0) (pa_cons (pv 1) pa_nil))) pa_nil)) (pe_op op_mulW (pe_op op_mulW (pe_op op_pow pe_int pe_int) (pe_op op_pow pe_int pe_int)) (pe_op op_pow pe_int pe_int))))
 (pss_cons (ps_if (pt_cmpR op_ge (pv 2) (pe_op op_pow pe_int pe_int) (nomark _))
 (pss_one (ps_ret (pe_lst (pa_cons (pv 2) (pa_cons pe_int pa_nil)))))
 pss_nil)
 (pss_cons (ps_set (i := 3) sc__law_bag.nd rfl (Or.inl rfl) (pe_op op_mod (pe_op op_add (pe_op op_add (pv 2) (pe_op op_mul pe_int (pv 1))) pe_int) pe_int))
 (pss_cons (ps_for PassesOwn.never rfl (pi_range1 rfl T.n_range (pa_cons (pe_callB (call_min2 rfl) (by rfl) T.n_min (by decide +kernel) (pa_cons (pe_callB call_len_seq (by rfl) T.n_len (by decide +kernel) (pa_cons (pv 0) pa_nil)) (pa_cons pe_int pa_nil))) pa_nil)) (pg_name (i := 4) sc__law_bag.nd rfl (Or.inl rfl))
 (pss_one (ps_set (i := 3) sc__law_bag.nd rfl (Or.inl rfl) (pe_op op_mod (pe_op op_add (pe_op op_add (pe_op op_pow (pv 3) pe_int) (pe_op op_mod (pe_ix ix_list (pv 0) (pv 4) (fun _ _ => rfl)) pe_int)) (pe_op op_mul pe_int (pv 4))) pe_int))))
 (pss_one (ps_ret (pe_lst (pa_cons (pv 3) (pa_cons pe_int pa_nil)))))))))), ?_⟩)⟩
  obtain ⟨a, k, rfl, ⟨ns, hS, hl⟩, h0, kQ⟩ := h
  refine ⟨_, rfl, _, rfl, a, k, rfl, ⟨ns, hS, hl⟩, h0, fun i => ?_⟩
  refine ⟨_, rfl, _, _, rfl, rfl, ⟨by decide, by decide, by decide⟩, _, _, rfl, rfl, ⟨by decide, by decide, by decide⟩, _, _, rfl, rfl, wide_mul (a := 300) (b := 300) (by decide +kernel) (by decide +kernel) (by decide) (by decide) (by decide), ?_⟩
  refine ⟨_, _, rfl, rfl, ⟨by decide, by decide, by decide⟩, _, _, rfl, rfl, wide_mul (a := 600) (b := 300) (by decide +kernel) (by decide +kernel) (by decide) (by decide) (by decide), ?_⟩
  refine ⟨_, _, rfl, rfl, (by show (0 : Int) < 10 ^ 60 * 10 ^ 60 * 10 ^ 60; decide +kernel), ?_⟩
  dsimp only
  simp only [show Int.toNat 60 = 60 from rfl]
  generalize hx : (if i < 0 then -i else i) % _ = x
  have hx0 : 0 ≤ x := by rw [← hx]; exact Int.emod_nonneg _ (by decide +kernel)
  have hx1 : x < 10 ^ 180 := by rw [← hx]; exact lt180
  clear hx
  refine ⟨_, rfl, _, _, rfl, rfl, ⟨by decide, by decide, by decide⟩, _, _, rfl, rfl, _, rfl, ?_⟩
  refine iteD (fun c => ?_) (fun c => ?_)
  · exact ⟨_, rfl, (by show 2 ≤ sizeLine; decide), fun p hp => kQ p x 0 hp (.inl ⟨rfl, hx0, hx1⟩)⟩
  refine ⟨_, rfl, _, rfl, _, _, rfl, rfl, .inl ⟨by decide, by decide⟩, _, _, rfl, rfl, _, _, rfl, rfl, _, _, rfl, rfl, (by show (0 : Int) < _; decide), ?_⟩
  refine ⟨_, rfl, a, _, rfl, .inl hS, _, _, rfl, ?_⟩
  rw [List.length_map]
  refine ⟨_, rfl, by split <;> omega, by split <;> omega, ?_⟩
  refine for_range (fun j σ H' => H' = H ∧ ∃ (m : Int) (v : Option V), σ = [some (.ref a), some (.int k), some (.int x), some (.int m), v] ∧ 0 ≤ m ∧ m < 2147483647) ⟨rfl, _, none, rfl, Int.emod_nonneg _ (by decide), Int.emod_lt_of_pos _ (by decide)⟩ ?_ ?_
  · rintro j σ H' hj ⟨rfl, m, v, rfl, m0, m1⟩
    have hj' : j < ns.length := by split at hj <;> omega
    have hx : (ns.map V.int)[j]? = some (V.int ns[j]) := by rw [List.getElem?_map, List.getElem?_eq_getElem hj']; rfl
    refine ⟨_, rfl, _, _, rfl, rfl, ⟨by decide, by decide, by omega⟩, _, rfl, _, rfl, a, _, _, _, rfl, rfl, hS, at_of (by omega) hx, _, _, rfl, rfl, (by show (0 : Int) < _; decide), _, _, rfl, rfl, _, rfl, _, _, rfl, rfl, .inl ⟨by decide, by decide⟩, _, _, rfl, rfl, _, _, rfl, rfl, (by show (0 : Int) < _; decide), ?_⟩
    exact ⟨rfl, _, _, rfl, Int.emod_nonneg _ (by decide), Int.emod_lt_of_pos _ (by decide)⟩
  · rintro σ H' ⟨rfl, m, v, rfl, m0, m1⟩
    exact ⟨_, rfl, (by show 2 ≤ sizeLine; decide), fun p hp => kQ p m 1 hp (.inr ⟨by decide, by decide, m0, m1⟩)⟩
theorem cal__law_bag {P : Program} {w : World} {K : PySem.W.Frag} {mg : Str → Option Value} {base : Heap} (T : Top w K mg) : Callee P w K mg base CX0 2 "_law_bag" (sp__law_bag K) [] := by
  obtain ⟨fd, F, S⟩ := ok__law_bag (P := P) T
  exact ⟨fd, _, [], S base, T.g__law_bag, F.kp, F.bindsN (fun _ _ _ _ _ _ us hl => match us, hl with | [_, _], _ => rfl), .nil⟩

def sp__law_take : Sp := fun vs H Q _ => ∃ (b : Addr) (m : Int), vs = [.ref b, .int m] ∧ BagAt H b ∧ 0 < m ∧ m ≤ 1000000 ∧ ∀ (r : Int) (H' : Hp), 0 ≤ r → r < m → BagAt H' b → Keep [b] H H' → Q (.int r) H'
theorem ok__law_take {P : Program} {w : World} {K : PySem.W.Frag} {mg : Str → Option Value} (T : Top w K mg) : ∃ fd : FuncData, FunD K "_law_take" "_law_take" (defArgs st__law_take) (defBody st__law_take) (defScope st__law_take) (dd__law_take.dvs K) (dd__law_take.kws K) (He.ga K "_law_take") fd ∧ ∀ base : Heap, FnOk P w K mg base CX0 1 (He.ga K "_law_take") fd ["_law_bag_here", "_law_many"] sp__law_take := by
  obtain ⟨fd, F⟩ := T.f__law_take
  refine ⟨fd, F, fun base => F.ok sc__law_take (fun vs H Q E h => by obtain ⟨_, _, rfl, _⟩ := h; rfl) (fun cdv A outer s H vs Q E hr h => ⟨_, PSs.nox
 ((pss_cons (ps_if (pt_cmpR op_eq (pe_ix ix_list (pv 0) pe_int (fun _ _ => rfl)) pe_int (nomark _))
 (pss_cons (ps_set (i := 2) sc__law_take.nd rfl (Or.inl rfl) (pe_op op_mod (pe_ix ix_list (pv 0) pe_int (fun _ _ => rfl)) (pv 1)))
 (pss_cons (ps_asg (pe_op op_fdivW (pe_ix ix_list (pv 0) pe_int (fun _ _ => rfl)) (pv 1)) (pg_sub (pv 0) pe_int set_list))
 (pss_one (ps_ret (pv 2)))))
 pss_nil)
 (pss_cons (ps_asg (pe_op op_mod (pe_op op_add (pe_op op_add (pe_op op_pow (pe_ix ix_list (pv 0) pe_int (fun _ _ => rfl)) pe_int) (pe_op op_mul pe_int (pe_ix ix_list (pv 0) pe_int (fun _ _ => rfl)))) pe_int) pe_int) (pg_sub (pv 0) pe_int set_list))
 (pss_cons (ps_asg (pe_op op_add (pe_ix ix_list (pv 0) pe_int (fun _ _ => rfl)) pe_int) (pg_sub (pv 0) pe_int set_list))
 (pss_one (ps_ret (pe_op op_mod (pe_op op_fdivW (pe_op op_mod (pe_op op_mul (pe_ix ix_list (pv 0) pe_int (fun _ _ => rfl)) pe_int) pe_int) pe_int) (pv 1)))))))), ?_⟩)⟩
  obtain ⟨b, m, rfl, ⟨n, f, hb, B⟩, hm0, hm1, kQ⟩ := h
  refine ⟨_, rfl, b, _, _, _, rfl, rfl, SqL.of hb, rfl, rfl, _, rfl, ?_⟩
  refine iteB (fun c => ?_) (fun c => ?_)
  · have e : f = 0 := by simpa using c
    subst e
    have hn : 0 ≤ n ∧ n < 10 ^ 180 := by
      rcases B with ⟨_, h⟩ | ⟨h, _⟩
      · exact h
      · exact absurd rfl h
    refine ⟨_, rfl, b, _, _, _, rfl, rfl, SqL.of hb, rfl, _, rfl, _, _, rfl, rfl, hm0, ?_⟩
    refine ⟨_, rfl, b, _, _, _, rfl, rfl, SqL.of hb, rfl, _, rfl, _, _, rfl, rfl, wide_div (b := 30) hm0 (by omega) (by decide) (by decide), ?_⟩
    refine ⟨_, rfl, b, _, _, _, rfl, rfl, hb, rfl, ?_⟩
    refine ⟨_, rfl, ?_⟩
    have q0 : 0 ≤ n / m := Int.ediv_nonneg hn.1 (Int.le_of_lt hm0)
    have q1 : n / m ≤ n := Int.ediv_le_self m hn.1
    exact kQ _ _ (Int.emod_nonneg _ (by omega)) (Int.emod_lt_of_pos _ hm0) ⟨n / m, 0, upd_same, .inl ⟨rfl, q0, Int.lt_of_le_of_lt q1 hn.2⟩⟩ Keep.refl.upd
  · have e : f ≠ 0 := by simpa using c
    have hn : 0 < f ∧ 0 ≤ n ∧ n < 2147483647 := by
      rcases B with ⟨h, _⟩ | ⟨_, h⟩
      · exact absurd h e
      · exact h
    refine ⟨_, rfl, b, _, _, _, rfl, rfl, SqL.of hb, rfl, _, _, rfl, rfl, ⟨by decide, by decide, by omega⟩, _, rfl, b, _, _, _, rfl, rfl, SqL.of hb, rfl, _, _, rfl, rfl, .inl ⟨by decide, by decide⟩, _, _, rfl, rfl, _, _, rfl, rfl, _, _, rfl, rfl, (by show (0 : Int) < _; decide), ?_⟩
    dsimp only
    generalize hx : (n ^ _ + _ + _ : Int) % 2147483647 = x
    have x0 : 0 ≤ x := by rw [← hx]; exact Int.emod_nonneg _ (by decide)
    have x1 : x < 2147483647 := by rw [← hx]; exact Int.emod_lt_of_pos _ (by decide)
    clear hx
    refine ⟨_, rfl, b, _, _, _, rfl, rfl, hb, rfl, ?_⟩
    refine ⟨_, rfl, b, _, _, _, rfl, rfl, SqL.of upd_same, rfl, _, _, rfl, rfl, _, rfl, b, _, _, _, rfl, rfl, upd_same, rfl, ?_⟩
    rw [upd_upd]
    refine ⟨_, rfl, b, _, _, _, rfl, rfl, SqL.of upd_same, rfl, _, _, rfl, rfl, .inr ⟨by decide, by decide⟩, _, _, rfl, rfl, (by show (0 : Int) < _; decide), _, _, rfl, rfl, wide_div (b := 30) (by decide) (by decide) (by decide) (by decide), _, rfl, _, _, rfl, rfl, hm0, ?_⟩
    exact kQ _ _ (Int.emod_nonneg _ (by omega)) (Int.emod_lt_of_pos _ hm0) ⟨x, f + 1, upd_same, .inr ⟨by omega, by omega, x0, x1⟩⟩ Keep.refl.upd
theorem cal__law_take {P : Program} {w : World} {K : PySem.W.Frag} {mg : Str → Option Value} {base : Heap} (T : Top w K mg) : Callee P w K mg base CX0 1 "_law_take" sp__law_take [] := by
  obtain ⟨fd, F, S⟩ := ok__law_take (P := P) T
  exact ⟨fd, _, [], S base, T.g__law_take, F.kp, F.bindsN (fun _ _ _ _ _ _ us hl => match us, hl with | [_, _], _ => rfl), .nil⟩


end Z

namespace Z
open PySem PySem.Spec PyProof.Rows L2
/-! ### Piece, pieces_of -/
theorem putF_Pc1 (x y : V) : putF ("signs" : Str) y (putF ("text" : Str) x []) = ([(("text" : Str), x), (("signs" : Str), y)] : List (Str × V)) := by
  rw [putF_nil, putF_ne _ _ _ (by decide +kernel), putF_nil]
theorem putF_Pc (x y z : V) : putF ("paint" : Str) z ([(("text" : Str), x), (("signs" : Str), y)] : List (Str × V)) = ([(("text" : Str), x), (("signs" : Str), y), (("paint" : Str), z)] : List (Str × V)) := by
  rw [putF_ne _ _ _ (by decide +kernel), putF_ne _ _ _ (by decide +kernel), putF_nil]
def sp_Piece_init (K : PySem.W.Frag) : Sp := fun vs H Q _ => ∃ (a dx : Addr) (x y z : V), vs = [.ref a, x, y, z] ∧ H a = some (.ins (He.ga K "Piece") dx []) ∧ Q .non (upd H a (.ins (He.ga K "Piece") dx [(("text" : Str), x), (("signs" : Str), y), (("paint" : Str), z)]))
theorem ok_Piece_init {P : Program} {w : World} {K : PySem.W.Frag} {mg : Str → Option Value} (T : Top w K mg) : ∃ fd : FuncData, FunD K "__init__" "Piece.__init__" (defArgs st_Piece_init) (defBody st_Piece_init) (defScope st_Piece_init) (dd_Piece_init.dvs K) (dd_Piece_init.kws K) (He.ma K (He.ga K "Piece") "__init__") fd ∧ ∀ base : Heap, FnOk P w K mg base CX0 1 (He.ma K (He.ga K "Piece") "__init__") fd ["self", "text", "signs", "paint"] (sp_Piece_init K) := by
  obtain ⟨fd, F⟩ := T.f_Piece_init
  refine ⟨fd, F, fun base => F.ok sc_Piece_init (fun vs H Q E h => by obtain ⟨_, _, _, _, _, rfl, _⟩ := h; rfl) (fun cdv A outer s H vs Q E hr h => ⟨_, PSs.nox
 ((pss_cons (ps_fld (pv 0) (pv 1) rfl)
 (pss_cons (ps_fld (pv 0) (pv 2) rfl)
 (pss_one (ps_fld (pv 0) (pv 3) rfl))))), ?_⟩)⟩
  obtain ⟨a, dx, x, y, z, rfl, ha, kQ⟩ := h
  have c := T.ci_Piece.cls
  refine ⟨_, rfl, _, rfl, a, _, dx, _, rfl, ha, c, T.na_Piece_text, by simp, ?_⟩
  refine ⟨_, rfl, _, rfl, a, _, dx, _, rfl, upd_same, c, T.na_Piece_signs, by rw [putF_nil]; simp, ?_⟩
  rw [putF_Pc1]
  refine ⟨_, rfl, _, rfl, a, _, dx, _, rfl, upd_same, c, T.na_Piece_paint, by simp, ?_⟩
  rw [upd_upd, upd_upd, putF_Pc]
  exact kQ

def sp_Piece_stands (K : PySem.W.Frag) : Sp := fun vs H Q _ => ∃ (v : V) (p : Pc) (s : Sg) (r : List Sg), vs = [v] ∧ PcAt K H v p ∧ p.signs = s :: r ∧ ∀ q, H q = none → Q (.ref q) (upd H q (.tup [.str s.page, .int s.row, .int s.col]))
def sp_pieces_of (K : PySem.W.Frag) : Sp := fun vs H Q _ => ∃ (z page : Str) (number : Int) (t : List Tk), vs = [.str z, .str page, .int number] ∧ z.length ≤ 100000 ∧ lexOf 0 (cl z) = .ok t ∧
  ∀ (p : Addr) (us : List V) (H' : Hp), H p = none → H' p = some (.lst us) → Paired (PcAt K H') us (t.map (pcOf page number)) → Same H H' → Q (.ref p) H'
theorem mkr_Piece_init_2 {P : Program} {w : World} {K : PySem.W.Frag} {mg : Str → Option Value} {base : Heap} (T : Top w K mg) : Maker P w K mg base CX0 1 "Piece" (sp_Piece_init K) [V.ref (He.dflAt ("Piece", some "__init__") 0 K)] := by
  obtain ⟨fd, F, S⟩ := ok_Piece_init (P := P) T
  obtain ⟨ds, hV, hB⟩ := F.binds1 (ps := ["self", "text", "signs", "paint"]) 3 0 (fun z => nomatch z) rfl (fun _ _ _ _ _ _ _ us its h1 h2 => match us, its, h1, h2 with | [_, _, _], [_], _, _ => ⟨_, rfl, rfl⟩)
  exact ⟨_, fd, _, ds, T.mk_Piece, S base, T.g_Piece, hB, hV⟩
theorem ok_pieces_of {P : Program} {w : World} {K : PySem.W.Frag} {mg : Str → Option Value} (T : Top w K mg) : ∃ fd : FuncData, FunD K "pieces_of" "pieces_of" (defArgs st_pieces_of) (defBody st_pieces_of) (defScope st_pieces_of) (dd_pieces_of.dvs K) (dd_pieces_of.kws K) (He.ga K "pieces_of") fd ∧ ∀ base : Heap, FnOk P w K mg base CX0 3 (He.ga K "pieces_of") fd ["row", "page", "number"] (sp_pieces_of K) := by
  obtain ⟨fd, F⟩ := T.f_pieces_of
  refine ⟨fd, F, fun base => F.ok sc_pieces_of (fun vs H Q E h => by obtain ⟨_, _, _, _, rfl, _⟩ := h; rfl) (fun cdv A outer s H vs Q E hr h => ⟨_, PSs.nox
 ((pss_cons (ps_set (i := 3) sc_pieces_of.nd rfl (Or.inl rfl) (pe_lst pa_nil))
 (pss_cons (ps_set (i := 4) sc_pieces_of.nd rfl (Or.inl rfl) pe_int)
 (pss_cons (ps_while PassesOwn.never (pt_cmpR op_lt (pv 4) (pe_callB call_len_str (by rfl) T.n_len (by decide +kernel) (pa_cons (pv 0) pa_nil)) (nomark _))
 (pss_cons (ps_set (i := 5) sc_pieces_of.nd rfl (Or.inl rfl) (pe_op op_add (pv 4) pe_int))
 (pss_cons (ps_if (pt_cmpR op_ne (pe_ix ix_str (pv 0) (pv 4) (fun _ _ => rfl)) pe_str (nomark _))
 (pss_cons (ps_set (i := 5) sc_pieces_of.nd rfl (Or.inl rfl) (pc (cal_token_end T) hr (by decide) L2.pass0 rfl (pa_cons (pv 0) (pa_cons (pv 4) pa_nil))))
 (pss_cons (ps_if (pt_cmpR op_isN (pv 5) pe_non (nomark _))
 (pss_one ps_never)
 pss_nil)
 (pss_one (ps_expr (pe_bm PySem.F.plainAttrs_list PySem.F.slot_list_append PySem.F.type_list_append mt_append (pv 3) (pa_cons (pmk (mkr_Piece_init_2 T) hr (by decide) L2.pass0 rfl (pa_cons (pe_slice sl_str (pv 0) (po_some (pv 4)) (po_some (pv 5))) (pa_cons (pe_tupleOf (by rfl) T.n_tuple (pe_lc (own := [("column", 6)]) (g := gName 6) (tt := tYes) rfl sc_pieces_of.nd (pi_range2 rfl T.n_range (pa_cons (pv 4) (pa_cons (pv 5) pa_nil))) (blkOk_by (N := ["row", "page", "number", "found", "at", "end", "column"]) (sc := defScope st_pieces_of) (by decide +kernel)) (fun _ _ _ _ _ => pg_name (i := 6) sc_pieces_of.nd rfl (Or.inl rfl)) (fun _ _ _ _ _ => pts_nil) (fun _ _ _ _ _ => (pe_tup (pa_cons (pv 1) (pa_cons (pv 2) (pa_cons (pv 6) (pa_cons (pe_tup pa_nil) pa_nil)))))))) pa_nil))) pa_nil))))))
 pss_nil)
 (pss_one (ps_set (i := 4) sc_pieces_of.nd rfl (Or.inl rfl) (pv 5))))))
 (pss_one (ps_ret (pv 3))))))), ?_⟩)⟩
  obtain ⟨z, page, number, t, rfl, hz, hlex, kQ⟩ := h
  have hcl := cl_len z
  have tk : ∀ {n : Nat} {c : Nat} {r : List Nat}, (cl z).drop n = c :: r → n < z.length := fun {n c r} e => by
    have := congrArg List.length e
    rw [List.length_drop, List.length_cons] at this
    omega
  refine ⟨Nat.zero_le _, fun p hp => ?_⟩
  generalize hZ : upd _ p _ = H1
  have e1 := at_of3 hZ
  have S1 := same_of3 hZ hp
  clear hZ
  refine ⟨fun m σ H' => ∃ (n : Nat) (acc : List Tk) (us : List V) (o : Option V), σ = [some (.str z), some (.str page), some (.int number), some (.ref p), some (.int n), o, none] ∧ n ≤ z.length ∧ acc.length ≤ n ∧ m = z.length - n ∧ H' p = some (.lst us) ∧ Paired (PcAt K H') us (acc.map (pcOf page number)) ∧ Same H H' ∧ lexOf 0 (cl z) = cat acc (lexOf n ((cl z).drop n)), ⟨_, 0, [], [], none, rfl, by omega, Nat.le_refl _, rfl, e1, .nil, S1, by rw [cat_nil, List.drop_zero]⟩, ?_⟩
  rintro m σ H2 ⟨n, acc, us, o, rfl, hn, ha, rfl, e2, P2, S2, hl⟩
  refine ⟨_, rfl, _, rfl, z, rfl, by rw [ss]; omega, _, _, rfl, rfl, _, rfl, ?_⟩
  refine iteD (fun c1 => ?_) (fun c1 => ?_)
  · have c1' : n < (cl z).length := by omega
    obtain ⟨c, r, hd⟩ : ∃ c r, (cl z).drop n = c :: r := ⟨_, _, List.drop_eq_getElem_cons c1'⟩
    have hx : (cl z)[n]? = some c := by
      have q : ((cl z).drop n)[0]? = some c := by rw [hd]; rfl
      rwa [List.getElem?_drop, Nat.add_zero] at q
    have dn : ∀ k, (cl z).drop (n + k) = (c :: r).drop k := fun k => by rw [← hd, List.drop_drop]
    rw [hd] at hl
    refine ⟨_, fun _ _ h => h, _, rfl, _, _, rfl, rfl, ?_⟩
    refine ⟨_, rfl, _, rfl, z, _, _, rfl, rfl, by rw [ss]; omega, atI_nat hx, rfl, _, rfl, ?_⟩
    rw [one_bl, V_one]
    refine iteDN (fun c2 => ?_) (fun c2 => ?_)
    · cases hk : tokLen (c :: r) with
      | none =>
        exfalso
        rw [lexOf_none c2 hk] at hl
        rw [hlex] at hl
        cases hl
      | some k =>
        rw [lexOf_some c2 hk, cat_cat] at hl
        have hb := tokLen_le hk
        have hrl : n + (r.length + 1) = z.length := by
          have := congrArg List.length hd
          rw [List.length_drop, List.length_cons] at this
          omega
        refine ⟨_, rfl, _, rfl, z, n, rfl, by rw [ss]; omega, by omega, ?_⟩
        rw [hd, hk]
        refine ⟨_, rfl, rfl, _, rfl, iteF ?_⟩
        refine ⟨_, rfl, .inl ⟨rfl, _, SqL.of e2⟩, _, rfl, _, rfl, _, rfl, _, rfl, _, rfl, z, rfl, by rw [ss]; omega, ?_⟩
        refine ⟨_, rfl, _, rfl, n, (n : Int) + (k : Nat), rfl, ⟨by omega, by omega, by omega, by omega⟩, fun D hD => ?_⟩
        have ek : ((n : Int) + (k : Nat) - (n : Int)).toNat = k := by omega
        rw [ek]
        refine lc_it walk_range (fun i H' => Same H2 H' ∧ ∃ vs, H' D = some (.lst vs) ∧ vs.length = i ∧ Paired (SgAt K H') vs ((List.range i).map fun j => ⟨page, number, (n + j : Nat), []⟩)) ⟨(Same.refl H2).new hD, [], upd_same, rfl, .nil⟩ (fun _ _ _ _ => True.intro) ?_ ?_
        · rintro i x H3 H4 hi ⟨S3, vs, e3, hv, P3⟩ ⟨rfl, rfl⟩
          refine ⟨rfl, _, rfl, _, rfl, _, rfl, Nat.zero_le _, fun q1 hq1 => ?_⟩
          generalize hZ : upd _ q1 _ = H5
          have e5 := at_of3 hZ
          have S5 := same_of3 hZ hq1
          clear hZ
          refine ⟨(by show 4 ≤ sizeLine; decide), fun q2 hq2 => ?_⟩
          generalize hZ : upd _ q2 _ = H6
          have e6 := at_of3 hZ
          have S6 := same_of3 hZ hq2
          clear hZ
          have hDD := S6 _ _ (S5 _ _ e3)
          refine ⟨vs, hDD, by rw [hv, ss]; omega, ((S3.trans S5).trans S6).upd hD, vs ++ [.ref q2], upd_same, by simp [hv], ?_⟩
          rw [List.range_succ, List.map_append]
          refine pSnoc ?_ (L2.Paired.mapP P3 fun _ _ g => g.stay ((S5.trans S6).stay.updL hDD))
          have e5' := S6 _ _ e5
          exact ⟨q2, q1, rfl, SqT.of (by rw [upd_ne (ne_of e6 hDD (by intro z; cases z))]; exact e6), SqT.of (by rw [upd_ne (ne_of e5' hDD (by intro z; cases z))]; exact e5')⟩
        · rintro H3 ⟨S3, vs, e3, hv, P3⟩
          refine .inl ⟨D, vs, rfl, SqL.of e3, fun sa hsa => ?_⟩
          generalize hZ : upd _ sa _ = H4
          have e4 := at_of3 hZ
          have S4 := same_of3 hZ hsa
          clear hZ
          intro x dx hx1 hdx hxd
          have S5 : Same H2 (upd (upd H4 dx (.own x)) x (.ins (He.ga K "Piece") dx [])) := ((S3.trans S4).new hdx).new (by rw [upd_ne hxd.symm]; exact hx1)
          refine ⟨x, dx, _, _, _, rfl, upd_same, rfl, ?_⟩
          rw [upd_upd]
          have S6 : ∀ {o1 o2 : HO}, Same H4 (upd (upd H4 dx o1) x o2) := fun {o1 o2} => ((Same.refl H4).new hdx).new (by rw [upd_ne hxd.symm]; exact hx1)
          have e6 : ∀ {o1 o2 : HO}, (upd (upd H4 dx o1) x o2) p = some (.lst us) := fun {o1 o2} => S6 _ _ (S4 _ _ (S3 _ _ e2))
          have la : us.length = acc.length := by rw [pLen P2, List.length_map]
          refine ⟨p, us, _, rfl, rfl, e6, by rw [ss]; omega, _, rfl, z.length - (n + k), by omega, n + k, acc ++ [((c :: r).take k, n)], us ++ [.ref x], _, rfl, by omega, by rw [List.length_append]; show acc.length + 1 ≤ _; omega, rfl, upd_same, ?_, ?_, ?_⟩
          · rw [List.map_append]
            have hx7 : ∀ {o1 o2 : HO}, (upd (upd H4 dx o1) x o2) x = some o2 := fun {o1 o2} => upd_same
            have st : ∀ {o1 o2 o3 : HO}, Stay H4 (upd (upd (upd H4 dx o1) x o2) p o3) := fun {o1 o2 o3} => S6.stay.updL e6
            have nx : x ≠ p := (ne_of_none (S4 _ _ (S3 _ _ e2)) hx1).symm
            refine pSnoc ⟨x, dx, sa, _, rfl, (upd_old nx upd_same).trans ?_, ⟨vs, SqT.of (st _ _ e4 rfl), ?_⟩, T.dfl_Piece_init_0 _⟩ (pcs_stay P2 (((S3.trans S4).stay).trans st))
            · have q : cl (cutS z (some (n : Int)) (some ((n + k : Nat) : Int))) = (c :: r).take k := by rw [cut_nat, hd, Nat.add_sub_cancel_left]
              have q2 := cut_eq q
              show some (HO.ins _ _ [(("text" : Str), V.str (cutS z (some (n : Int)) (some ((n + k : Nat) : Int)))), _, _]) = _
              rw [q2]; rfl
            · have q : ((c :: r).take k).length = k := by rw [List.length_take, List.length_cons]; omega
              show Paired _ _ ((List.range ((c :: r).take k).length).map _)
              rw [q]
              exact L2.Paired.mapP P3 fun _ _ g => g.stay (S4.stay.trans st)
          · exact ((S2.trans S3).trans (S4.trans S6)).upd hp
          · rw [dn]; exact hl
    · subst c2
      rw [lexOf_bl] at hl
      have dn1 := dn 1
      refine ⟨_, rfl, z.length - (n + 1), by omega, n + 1, acc, us, _, rfl, by omega, by omega, rfl, e2, P2, S2, ?_⟩
      rw [show (cl z).drop (n + 1) = r from dn1]
      exact hl
  · have e0 : n = z.length := by omega
    subst e0
    rw [List.drop_eq_nil_of_le (by omega), lexOf_nil, hlex] at hl
    have et : t = acc := by
      have q : Except.ok t = Except.ok (acc ++ []) := hl
      rw [List.append_nil] at q
      exact Except.ok.inj q
    subst et
    exact ⟨_, rfl, kQ p us H2 hp e2 P2 S2⟩


end Z

namespace Z
open PySem PySem.Spec PyProof.Rows L2
/-! ### is_apart, written -/
def sp_is_apart : Sp := fun vs H Q _ => ∃ (x y : Str), vs = [.str x, .str y] ∧ x.length ≤ 1000000 ∧ y.length ≤ 1000000 ∧ 0 < x.length ∧ Q (.bl (apart (cl x) (cl y))) H
theorem ok_is_apart {P : Program} {w : World} {K : PySem.W.Frag} {mg : Str → Option Value} (T : Top w K mg) : ∃ fd : FuncData, FunD K "is_apart" "is_apart" (defArgs st_is_apart) (defBody st_is_apart) (defScope st_is_apart) (dd_is_apart.dvs K) (dd_is_apart.kws K) (He.ga K "is_apart") fd ∧ ∀ base : Heap, FnOk P w K mg base CX0 3 (He.ga K "is_apart") fd ["one", "other"] sp_is_apart := by
  obtain ⟨fd, F⟩ := T.f_is_apart
  refine ⟨fd, F, fun base => F.ok sc_is_apart (fun vs H Q E h => by obtain ⟨_, _, rfl, _⟩ := h; rfl) (fun cdv A outer s H vs Q E hr h => ⟨_, PSs.nox
 ((pss_one (ps_ret (pe_cmpR op_eq (pc (cal_token_end T) hr (by decide) L2.pass0 rfl (pa_cons (pe_op op_add_str (pv 0) (pv 1)) (pa_cons pe_int pa_nil))) (pe_callB call_len_str (by rfl) T.n_len (by decide +kernel) (pa_cons (pv 0) pa_nil)) (nomark _))))), ?_⟩)⟩
  obtain ⟨x, y, rfl, hx, hy, h0, kQ⟩ := h
  refine ⟨_, rfl, _, rfl, _, _, rfl, rfl, line_of (by omega), ?_⟩
  have la := len_append x y
  refine ⟨x ++ y, 0, rfl, line_of (by omega), by omega, ?_⟩
  rw [List.drop_zero, cl_append]
  refine ⟨_, rfl, x, rfl, line_of (by omega), ?_⟩
  have hcl := cl_len x
  have e : scal (ofTok 0 (tokLen (cl x ++ cl y))) (V.int x.length) = true ∧ decide (ofTok 0 (tokLen (cl x ++ cl y)) = V.int x.length) = apart (cl x) (cl y) := by
    unfold apart
    cases q : tokLen (cl x ++ cl y) with
    | none => exact ⟨rfl, by rw [decide_eq_decide]; simp [ofTok]⟩
    | some n => exact ⟨rfl, by rw [decide_eq_decide]; simp only [ofTok, V.int.injEq, Option.some.injEq]; omega⟩
  refine ⟨e.1, ?_⟩
  show Q (.bl (decide (ofTok 0 (tokLen (cl x ++ cl y)) = V.int x.length))) H
  rw [e.2]; exact kQ
theorem cal_is_apart {P : Program} {w : World} {K : PySem.W.Frag} {mg : Str → Option Value} {base : Heap} (T : Top w K mg) : Callee P w K mg base CX0 3 "is_apart" sp_is_apart [] := by
  obtain ⟨fd, F, S⟩ := ok_is_apart (P := P) T
  exact ⟨fd, _, [], S base, T.g_is_apart, F.kp, F.bindsN (fun _ _ _ _ _ _ us hl => match us, hl with | [_, _], _ => rfl), .nil⟩

/-- the written texts of pieces, the last one told -/
def lastOf : Option (List Nat) → List (List Nat) → Option (List Nat)
  | o, [] => o
  | _, w :: ws => lastOf (some w) ws
theorem wr_app : ∀ (o : Option (List Nat)) (a b : List (List Nat)), wr o (a ++ b) = wr o a ++ wr (lastOf o a) b
  | o, [], b => by cases o <;> simp [lastOf, wr]
  | none, w :: a, b => by
    show w ++ wr (some w) (a ++ b) = w ++ wr (some w) a ++ wr (lastOf (some w) a) b
    rw [wr_app (some w) a b, List.append_assoc]
  | some l, w :: a, b => by
    show (if apart l w then w else 32 :: w) ++ wr (some w) (a ++ b) = (if apart l w then w else 32 :: w) ++ wr (some w) a ++ wr (lastOf (some w) a) b
    rw [wr_app (some w) a b, List.append_assoc]
theorem last_app : ∀ (o : Option (List Nat)) (a b : List (List Nat)), lastOf o (a ++ b) = lastOf (lastOf o a) b
  | o, [], b => by cases o <;> rfl
  | o, w :: a, b => last_app (some w) a b
def sumL (ws : List (List Nat)) : Nat := (ws.map fun w => w.length + 1).sum
theorem wr_len : ∀ (o : Option (List Nat)) (ws : List (List Nat)), (wr o ws).length ≤ sumL ws
  | o, [] => by cases o <;> simp [wr]
  | none, w :: ws => by
    have := wr_len (some w) ws
    show (w ++ wr (some w) ws).length ≤ _
    unfold sumL at this ⊢
    rw [List.length_append, List.map_cons, List.sum_cons]; omega
  | some l, w :: ws => by
    have := wr_len (some w) ws
    show ((if apart l w then w else 32 :: w) ++ wr (some w) ws).length ≤ _
    unfold sumL at this ⊢
    rw [List.length_append, List.map_cons, List.sum_cons]
    split
    · omega
    · rw [List.length_cons]; omega
theorem sumL_take : ∀ (ws : List (List Nat)) (i : Nat), sumL (ws.take i) ≤ sumL ws
  | [], i => by simp
  | w :: ws, 0 => by simp [sumL]
  | w :: ws, i + 1 => by
    have := sumL_take ws i
    unfold sumL at this ⊢
    rw [List.take_succ_cons, List.map_cons, List.sum_cons, List.map_cons, List.sum_cons]; omega
theorem sumL_mem : ∀ {ws : List (List Nat)} {w : List Nat}, w ∈ ws → w.length + 1 ≤ sumL ws
  | [], w, h => by simp at h
  | a :: ws, w, h => by
    unfold sumL
    rw [List.map_cons, List.sum_cons]
    rcases List.mem_cons.mp h with rfl | h2
    · omega
    · have := sumL_mem h2
      unfold sumL at this; omega
theorem last_mem : ∀ {ws : List (List Nat)} {o : Option (List Nat)} {l : List Nat}, lastOf o ws = some l → o = some l ∨ l ∈ ws
  | [], o, l, h => .inl (by cases o <;> exact h)
  | w :: ws, o, l, h => by
    rcases last_mem (ws := ws) (o := some w) h with e | e
    · exact .inr (by rw [Option.some.inj e]; simp)
    · exact .inr (by simp [e])
def texts (ps : List Pc) : List (List Nat) := ps.map fun p => cl p.text
def optV : Option (List Nat) → V
  | none => .non
  | some l => .str ⟨l.toArray⟩
/-- pieces lie in a list or a tuple -/
def SqLT (K : PySem.W.Frag) (H : Hp) (a : Addr) (us : List V) : Prop := SqL K H a us
def sp_written (K : PySem.W.Frag) : Sp := fun vs H Q _ => ∃ (p : Addr) (us : List V) (ps : List Pc), vs = [.ref p] ∧ SqL K H p us ∧ Paired (PcAt K H) us ps ∧ (∀ x ∈ ps, cl x.text ≠ []) ∧ sumL (texts ps) ≤ 1000000 ∧ ∀ z : Str, cl z = wr none (texts ps) → Q (.str z) H
theorem ok_written {P : Program} {w : World} {K : PySem.W.Frag} {mg : Str → Option Value} (T : Top w K mg) : ∃ fd : FuncData, FunD K "written" "written" (defArgs st_written) (defBody st_written) (defScope st_written) (dd_written.dvs K) (dd_written.kws K) (He.ga K "written") fd ∧ ∀ base : Heap, FnOk P w K mg base CX0 4 (He.ga K "written") fd ["pieces"] (sp_written K) := by
  obtain ⟨fd, F⟩ := T.f_written
  refine ⟨fd, F, fun base => F.ok sc_written (fun vs H Q E h => by obtain ⟨_, _, _, rfl, _⟩ := h; rfl) (fun cdv A outer s H vs Q E hr h => ⟨_, PSs.nox
 ((pss_cons (ps_set (i := 1) sc_written.nd rfl (Or.inl rfl) pe_str)
 (pss_cons (ps_set (i := 2) sc_written.nd rfl (Or.inl rfl) pe_non)
 (pss_cons (ps_for PassesOwn.never rfl (pi_list (pv 0)) (pg_name (i := 3) sc_written.nd rfl (Or.inl rfl))
 (pss_cons (ps_if (PW.pt (pw_and (pt_cmpR op_notN (pv 2) pe_non (nomark _)) (pw_and1 (pt_not (pt_val (pc (cal_is_apart T) hr (by decide) L2.pass0 rfl (pa_cons (pv 2) (pa_cons (pe_fld (pv 3) rfl) pa_nil))))))))
 (pss_one (ps_aug (i := 1) sc_written.nd rfl (Or.inl rfl) pe_str iop_add_str))
 pss_nil)
 (pss_cons (ps_aug (i := 1) sc_written.nd rfl (Or.inl rfl) (pe_fld (pv 3) rfl) iop_add_str)
 (pss_one (ps_set (i := 2) sc_written.nd rfl (Or.inl rfl) (pe_fld (pv 3) rfl))))))
 (pss_one (ps_ret (pv 1))))))), ?_⟩)⟩
  obtain ⟨p, us, ps, rfl, hp, Pu, hne, hsz, kQ⟩ := h
  have lu := pLen Pu
  have c := T.ci_Piece
  refine ⟨_, rfl, p, rfl, ⟨us, hp⟩, ?_⟩
  refine for_list (K := K) (a := p) (xs := us) (fun i σ H' => H' = H ∧ ∃ (z : Str) (o : Option V), σ = [some (.ref p), some (.str z), some (optV (lastOf none (texts (ps.take i)))), o] ∧ cl z = wr none (texts (ps.take i))) ⟨rfl, "", none, rfl, nil_s⟩ (fun i σ H' _ h => by rw [h.1]; exact hp) ?_ ?_
  · rintro i x σ H1 hx ⟨rfl, z, o, rfl, hz⟩
    obtain ⟨pc, hpc, a, dx, sa, pa, rfl, h1, h2, h3⟩ := pAt Pu hx
    have ht : texts (ps.take (i + 1)) = texts (ps.take i) ++ [cl pc.text] := by
      rw [take_more hpc]; unfold texts; rw [List.map_append]; rfl
    have hmem : ∀ j, texts (ps.take j) = (texts ps).take j := fun j => by unfold texts; rw [List.map_take]
    have hzl : z.length ≤ 1000000 := by
      rw [← cl_len, hz]
      refine Nat.le_trans (wr_len _ _) ?_
      rw [hmem]
      exact Nat.le_trans (sumL_take _ _) hsz
    have hpl : pc.text.length + 1 ≤ 1000000 := by
      rw [← cl_len]
      refine Nat.le_trans (sumL_mem (ws := texts ps) ?_) hsz
      exact List.mem_map.mpr ⟨pc, List.mem_of_getElem? hpc, rfl⟩
    rw [ht, wr_app, last_app]
    generalize hL : lastOf none (texts (ps.take i)) = L
    cases L with
    | none =>
      refine ⟨_, rfl, rfl, _, rfl, ?_⟩
      refine iteF ⟨_, rfl, _, rfl, a, _, dx, _, _, rfl, h1, c.cls, T.na_Piece_text, rfl, _, _, rfl, rfl, line_of (by omega), ?_⟩
      refine ⟨_, rfl, a, _, dx, _, _, rfl, h1, c.cls, T.na_Piece_text, rfl, ?_⟩
      refine ⟨rfl, _, _, rfl, ?_⟩
      rw [cl_append, hz]
      show _ = _ ++ (cl pc.text ++ [])
      rw [List.append_nil]
    | some l =>
      have hl : l ∈ texts (ps.take i) := by
        rcases last_mem hL with e | e
        · cases e
        · exact e
      have hlm : l ∈ texts ps := by rw [hmem] at hl; exact List.mem_of_mem_take hl
      have hll := Nat.le_trans (sumL_mem hlm) hsz
      have hln : l ≠ [] := by
        obtain ⟨q, hq, e⟩ := List.mem_map.mp hlm
        rw [← e]; exact hne q hq
      have hl0 : 0 < l.length := List.length_pos_iff.mpr hln
      have lz : Str.length ⟨l.toArray⟩ = l.length := List.size_toArray
      refine ⟨_, rfl, rfl, _, rfl, ?_⟩
      refine ⟨_, rfl, _, rfl, a, _, dx, _, _, rfl, h1, c.cls, T.na_Piece_text, rfl, ⟨l.toArray⟩, pc.text, rfl, by omega, by omega, by omega, _, rfl, ?_⟩
      have hlz := len_append z (" " : Str)
      rw [str_len_b] at hlz
      show if (!apart l (cl pc.text)) = true then _ else _
      cases q : apart l (cl pc.text) with
      | true =>
        refine iteF ⟨_, rfl, _, rfl, a, _, dx, _, _, rfl, h1, c.cls, T.na_Piece_text, rfl, _, _, rfl, rfl, line_of (by omega), ?_⟩
        refine ⟨_, rfl, a, _, dx, _, _, rfl, h1, c.cls, T.na_Piece_text, rfl, ?_⟩
        refine ⟨rfl, _, _, rfl, ?_⟩
        rw [cl_append, hz]
        show _ = _ ++ ((if apart l (cl pc.text) then cl pc.text else 32 :: cl pc.text) ++ [])
        rw [q, List.append_nil]; rfl
      | false =>
        refine iteT ⟨_, rfl, _, _, rfl, rfl, line_of (by rw [str_len_b]; omega), ?_⟩
        refine ⟨_, rfl, _, rfl, a, _, dx, _, _, rfl, h1, c.cls, T.na_Piece_text, rfl, _, _, rfl, rfl, line_of (by omega), ?_⟩
        refine ⟨_, rfl, a, _, dx, _, _, rfl, h1, c.cls, T.na_Piece_text, rfl, ?_⟩
        refine ⟨rfl, _, _, rfl, ?_⟩
        rw [cl_append, cl_append, hz]
        show _ = _ ++ ((if apart l (cl pc.text) then cl pc.text else 32 :: cl pc.text) ++ [])
        rw [q, List.append_nil, List.append_assoc, show cl (" " : Str) = [32] by rw [one_bl]]; rfl
  · rintro σ H1 ⟨rfl, z, o, rfl, hz⟩
    rw [lu, List.take_length] at hz
    exact ⟨_, rfl, kQ z hz⟩
theorem cal_written {P : Program} {w : World} {K : PySem.W.Frag} {mg : Str → Option Value} {base : Heap} (T : Top w K mg) : Callee P w K mg base CX0 4 "written" (sp_written K) [] := by
  obtain ⟨fd, F, S⟩ := ok_written (P := P) T
  exact ⟨fd, _, [], S base, T.g_written, F.kp, F.bindsN (fun _ _ _ _ _ _ us hl => match us, hl with | [_], _ => rfl), .nil⟩


end Z

namespace Z
open PySem PySem.Spec PyProof.Rows L2
/-! ### k05: written and read -/
theorem l30 : ("!#$&'()*+,-./:;<=>?\x40[\\]^_`{|}~" : Str).length = 30 := by decide +kernel
theorem l62 : ("abcdefghijklmnopqrstuvwxyzABCDEFGHIJKLMNOPQRSTUVWXYZ0123456789" : Str).length = 62 := by decide +kernel
theorem l35 : (("!#$&'()*+,-./:;<=>?\x40[\\]^_`{|}~" : Str) ++ (" aZ09" : Str)).length = 35 := by decide +kernel
theorem l7 : ("=!<>&|-" : Str).length = 7 := by decide +kernel
theorem tk_signs : ∀ c ∈ cl ("!#$&'()*+,-./:;<=>?\x40[\\]^_`{|}~" : Str), c ≠ 34 ∧ c ≠ 32 ∧ isLF c = false := by decide +kernel
theorem tk_seven : ∀ c ∈ cl ("=!<>&|-" : Str), c ≠ 34 ∧ c ≠ 32 ∧ isLF c = false := by decide +kernel
theorem tk_within : ∀ c ∈ cl (("!#$&'()*+,-./:;<=>?\x40[\\]^_`{|}~" : Str) ++ (" aZ09" : Str)), c ≠ 34 := by decide +kernel
theorem tk_lf : ∀ c ∈ cl ("abcdefghijklmnopqrstuvwxyzABCDEFGHIJKLMNOPQRSTUVWXYZ0123456789" : Str), isLF c = true := by decide +kernel
/-- a token comes -/
def sp__law_token : Sp := fun vs H Q _ => ∃ (b : Addr), vs = [.ref b] ∧ BagAt H b ∧ ∀ (z : Str) (H' : Hp), isTk (cl z) → z.length ≤ 6 → BagAt H' b → Keep [b] H H' → Q (.str z) H'
theorem ok__law_token {P : Program} {w : World} {K : PySem.W.Frag} {mg : Str → Option Value} (T : Top w K mg) : ∃ fd : FuncData, FunD K "_law_token" "_law_token" (defArgs st__law_token) (defBody st__law_token) (defScope st__law_token) (dd__law_token.dvs K) (dd__law_token.kws K) (He.ga K "_law_token") fd ∧ ∀ base : Heap, FnOk P w K mg base CX0 2 (He.ga K "_law_token") fd ["_law_bag_here"] sp__law_token := by
  obtain ⟨fd, F⟩ := T.f__law_token
  refine ⟨fd, F, fun base => F.ok sc__law_token (fun vs H Q E h => by obtain ⟨_, rfl, _⟩ := h; rfl) (fun cdv A outer s H vs Q E hr h => ⟨_, PSs.nox
 ((pss_cons (ps_set (i := 1) sc__law_token.nd rfl (Or.inr rfl) pe_str)
 (pss_cons (ps_set (i := 2) sc__law_token.nd rfl (Or.inr rfl) pe_str)
 (pss_cons (ps_set (i := 3) sc__law_token.nd rfl (Or.inl rfl) (pc (cal__law_take T) hr (by decide) L2.pass0 rfl (pa_cons (pv 0) (pa_cons pe_int pa_nil))))
 (pss_cons (ps_if (pt_cmpR op_lt (pv 3) pe_int (nomark _))
 (pss_one (ps_ret (pe_join pe_str (pe_lc (own := [("_law_k", 4)]) (g := gName 4) (tt := tYes) rfl sc__law_token.nd (pi_range1 rfl T.n_range (pa_cons (pe_op op_add pe_int (pc (cal__law_take T) hr (by decide) L2.pass0 rfl (pa_cons (pv 0) (pa_cons pe_int pa_nil)))) pa_nil)) (blkOk_by (N := ["_law_bag_here", "_law_signs", "_law_letters", "_law_way", "_law_k"]) (sc := defScope st__law_token) (by decide +kernel)) (fun _ _ _ _ _ => pg_name (i := 4) sc__law_token.nd rfl (Or.inl rfl)) (fun _ _ _ _ _ => pts_nil) (fun _ _ _ _ _ => (pe_ix ix_str (pv 2) (pc (cal__law_take T) hr (by decide) L2.pass0 rfl (pa_cons (pv 0) (pa_cons pe_int pa_nil))) (fun _ _ => rfl)))))))
 pss_nil)
 (pss_cons (ps_if (pt_cmpR op_eq (pv 3) pe_int (nomark _))
 (pss_one (ps_ret (pe_op op_add_str (pe_op op_add_str pe_str (pe_join pe_str (pe_lc (own := [("_law_k", 4)]) (g := gName 4) (tt := tYes) rfl sc__law_token.nd (pi_range1 rfl T.n_range (pa_cons (pc (cal__law_take T) hr (by decide) L2.pass0 rfl (pa_cons (pv 0) (pa_cons pe_int pa_nil))) pa_nil)) (blkOk_by (N := ["_law_bag_here", "_law_signs", "_law_letters", "_law_way", "_law_k"]) (sc := defScope st__law_token) (by decide +kernel)) (fun _ _ _ _ _ => pg_name (i := 4) sc__law_token.nd rfl (Or.inl rfl)) (fun _ _ _ _ _ => pts_nil) (fun _ _ _ _ _ => (pe_ix ix_str (pe_op op_add_str (pv 1) pe_str) (pc (cal__law_take T) hr (by decide) L2.pass0 rfl (pa_cons (pv 0) (pa_cons pe_int pa_nil))) (fun _ _ => rfl)))))) pe_str)))
 pss_nil)
 (pss_cons (ps_if (pt_cmpR op_eq (pv 3) pe_int (nomark _))
 (pss_one (ps_ret (pe_ix ix_list (pe_lst (pa_cons pe_str (pa_cons pe_str (pa_cons pe_str (pa_cons pe_str (pa_cons pe_str (pa_cons pe_str (pa_cons pe_str pa_nil)))))))) (pc (cal__law_take T) hr (by decide) L2.pass0 rfl (pa_cons (pv 0) (pa_cons pe_int pa_nil))) (fun _ _ => rfl))))
 pss_nil)
 (pss_cons (ps_if (pt_cmpR op_eq (pv 3) pe_int (nomark _))
 (pss_one (ps_ret (pe_ix ix_str pe_str (pc (cal__law_take T) hr (by decide) L2.pass0 rfl (pa_cons (pv 0) (pa_cons pe_int pa_nil))) (fun _ _ => rfl))))
 pss_nil)
 (pss_one (ps_ret (pe_ix ix_str (pv 1) (pc (cal__law_take T) hr (by decide) L2.pass0 rfl (pa_cons (pv 0) (pa_cons pe_int pa_nil))) (fun _ _ => rfl)))))))))))), ?_⟩)⟩
  obtain ⟨b, rfl, B, kQ⟩ := h
  refine ⟨_, rfl, b, 7, rfl, B, by decide, by decide, fun w H1 w0 w1 B1 k1 => ?_⟩
  refine ⟨_, rfl, _, _, rfl, rfl, _, rfl, iteD (fun c => ?_) (fun c => ?_)⟩
  · refine ⟨⟨_, rfl⟩, _, rfl, b, 6, rfl, B1, by decide, by decide, fun m H2 m0 m1 B2 k2 => ⟨_, _, rfl, rfl, _, rfl, by omega, by omega, fun D hD => ?_⟩⟩
    refine lc_mut walk_range (bag_mut b) (G := ChG (cl ("abcdefghijklmnopqrstuvwxyzABCDEFGHIJKLMNOPQRSTUVWXYZ0123456789" : Str))) (fun _ _ _ h _ => h) ?_ B2 hD ?_ ?_
    · omega
    · rintro i x H3 H4 R hi B3 k3 ⟨rfl, rfl⟩ hR
      refine ⟨rfl, _, rfl, _, rfl, b, 62, rfl, B3, by decide, by decide, fun r H5 r0 r1 B5 k5 => ?_⟩
      obtain ⟨c, hm, hc⟩ := ix_m r0 (by rw [l62]; omega)
      exact ⟨_, _, _, rfl, rfl, line_of (by rw [l62]; decide), hc, hR _ _ ⟨c, hm, rfl⟩ B5 k5⟩
    · rintro us H3 hl hu B3 k3 e3
      obtain ⟨cs, rfl, hw⟩ := ChG.all hu
      rw [List.length_map, List.length_map] at hl
      refine ⟨_, D, _, rfl, rfl, .inl (SqL.of e3), by rw [str_len0, sum_cs, List.length_map]; omega, ?_⟩
      refine kQ _ H3 ?_ (by rw [join0_len, sum_cs]; omega) B3 (k1.trans (k2.trans k3))
      rw [join_cs]
      exact isTk_word (by intro e; subst e; simp at hl; omega) fun c hc => tk_lf c (hw c hc)
  refine ⟨_, rfl, rfl, _, rfl, iteD (fun c2 => ?_) (fun c2 => ?_)⟩
  · refine ⟨⟨_, rfl⟩, _, rfl, b, 5, rfl, B1, by decide, by decide, fun m H2 m0 m1 B2 k2 => ⟨_, rfl, by omega, by omega, fun D hD => ?_⟩⟩
    refine lc_mut walk_range (bag_mut b) (G := ChG (cl (("!#$&'()*+,-./:;<=>?\x40[\\]^_`{|}~" : Str) ++ (" aZ09" : Str)))) (fun _ _ _ h _ => h) ?_ B2 hD ?_ ?_
    · omega
    · rintro i x H3 H4 R hi B3 k3 ⟨rfl, rfl⟩ hR
      refine ⟨rfl, _, rfl, _, _, rfl, rfl, line_of (by rw [l30, show (" aZ09" : Str).length = 5 by decide +kernel]; decide), _, rfl, b, 35, rfl, B3, by decide, by decide, fun r H5 r0 r1 B5 k5 => ?_⟩
      obtain ⟨c, hm, hc⟩ := ix_m r0 (by rw [l35]; omega)
      exact ⟨_, _, _, rfl, rfl, line_of (by rw [l35]; decide), hc, hR _ _ ⟨c, hm, rfl⟩ B5 k5⟩
    · rintro us H3 hl hu B3 k3 e3
      obtain ⟨cs, rfl, hw⟩ := ChG.all hu
      rw [List.length_map, List.length_map] at hl
      refine ⟨_, D, _, rfl, rfl, .inl (SqL.of e3), by rw [str_len0, sum_cs, List.length_map]; omega, ?_⟩
      have hj : (Txt.join ("" : Str) (cs.map fun c => (⟨#[c]⟩ : Str))).length = cs.length := by rw [join0_len, sum_cs]
      have hj2 := join_cs cs
      generalize Txt.join ("" : Str) (cs.map fun c => (⟨#[c]⟩ : Str)) = j at hj hj2
      refine ⟨_, _, rfl, rfl, line_of (by rw [str_len_q]; omega), _, _, rfl, rfl, line_of (by rw [len_append, str_len_q]; omega), ?_⟩
      refine kQ _ H3 ?_ (by rw [len_append, len_append, str_len_q]; omega) B3 (k1.trans (k2.trans k3))
      rw [cl_append, cl_append, hj2, show cl ("\"" : Str) = [34] by rw [q34]]
      exact isTk_text fun h => tk_within 34 (hw 34 h) rfl
  refine ⟨_, rfl, rfl, _, rfl, iteD (fun c3 => ?_) (fun c3 => ?_)⟩
  · refine ⟨(by show 7 ≤ sizeLine; decide), fun p hp => ⟨_, rfl, b, 7, rfl, B1.new hp, by decide, by decide, fun r H2 r0 r1 B2 k2 => ?_⟩⟩
    have hpb := B1.ne hp
    have hp2 := k2.one upd_same (Ne.symm hpb)
    obtain ⟨z, hz, hl⟩ : ∃ z : Str, atI [V.str "==", V.str "!=", V.str "<=", V.str ">=", V.str "&&", V.str "||", V.str "->"] r = some (V.str z) ∧ z.length = 2 ∧ cl z ∈ prs := by
      rcases (show r = 0 ∨ r = 1 ∨ r = 2 ∨ r = 3 ∨ r = 4 ∨ r = 5 ∨ r = 6 by omega) with rfl | rfl | rfl | rfl | rfl | rfl | rfl
      all_goals exact ⟨_, rfl, by decide +kernel, by decide +kernel⟩
    refine ⟨p, _, _, _, rfl, rfl, SqL.of hp2, hz, ?_⟩
    exact kQ z H2 (isTk_pair hl.2) (by omega) B2 (k1.trans ((Keep.refl.new hp).trans k2))
  refine ⟨_, rfl, rfl, _, rfl, iteD (fun c4 => ?_) (fun c4 => ?_)⟩
  · refine ⟨_, rfl, b, 7, rfl, B1, by decide, by decide, fun r H2 r0 r1 B2 k2 => ?_⟩
    obtain ⟨c, hm, hc⟩ := ix_m (z := ("=!<>&|-" : Str)) r0 (by rw [l7]; omega)
    obtain ⟨a1, a2, a3⟩ := tk_seven c hm
    exact ⟨_, _, _, rfl, rfl, line_of (by rw [l7]; decide), hc, kQ _ H2 (isTk_sign a1 a2 a3) (by rw [len1]; decide) B2 (k1.trans k2)⟩
  · refine ⟨_, rfl, _, rfl, b, 30, rfl, B1, by decide, by decide, fun r H2 r0 r1 B2 k2 => ?_⟩
    obtain ⟨c, hm, hc⟩ := ix_m (z := ("!#$&'()*+,-./:;<=>?\x40[\\]^_`{|}~" : Str)) r0 (by rw [l30]; omega)
    obtain ⟨a1, a2, a3⟩ := tk_signs c hm
    exact ⟨_, _, _, rfl, rfl, line_of (by rw [l30]; decide), hc, kQ _ H2 (isTk_sign a1 a2 a3) (by rw [len1]; decide) B2 (k1.trans k2)⟩
theorem cal__law_token {P : Program} {w : World} {K : PySem.W.Frag} {mg : Str → Option Value} {base : Heap} (T : Top w K mg) : Callee P w K mg base CX0 2 "_law_token" sp__law_token [] := by
  obtain ⟨fd, F, S⟩ := ok__law_token (P := P) T
  exact ⟨fd, _, [], S base, T.g__law_token, F.kp, F.bindsN (fun _ _ _ _ _ _ us hl => match us, hl with | [_], _ => rfl), .nil⟩

/-- a list of tokens comes -/
def sp__law_tokens : Sp := fun vs H Q _ => ∃ (b : Addr), vs = [.ref b] ∧ BagAt H b ∧ ∀ (ws : List Str) (p : Addr) (H' : Hp), H p = none → Toks ws → sumS ws ≤ 400 → H' p = some (.lst (ws.map V.str)) → BagAt H' b → Keep [b] H H' → Q (.ref p) H'
theorem mem_rep {α : Type} {l : List α} {n : Nat} {x : α} (h : x ∈ (List.replicate n l).flatten) : x ∈ l := by
  obtain ⟨m, hm, hx⟩ := List.mem_flatten.mp h
  rw [(List.mem_replicate.mp hm).2] at hx
  exact hx
theorem ok__law_tokens {P : Program} {w : World} {K : PySem.W.Frag} {mg : Str → Option Value} (T : Top w K mg) : ∃ fd : FuncData, FunD K "_law_tokens" "_law_tokens" (defArgs st__law_tokens) (defBody st__law_tokens) (defScope st__law_tokens) (dd__law_tokens.dvs K) (dd__law_tokens.kws K) (He.ga K "_law_tokens") fd ∧ ∀ base : Heap, FnOk P w K mg base CX0 3 (He.ga K "_law_tokens") fd ["_law_bag_here"] sp__law_tokens := by
  obtain ⟨fd, F⟩ := T.f__law_tokens
  refine ⟨fd, F, fun base => F.ok sc__law_tokens (fun vs H Q E h => by obtain ⟨_, rfl, _⟩ := h; rfl) (fun cdv A outer s H vs Q E hr h => ⟨_, PSs.nox
 ((pss_cons (ps_set (i := 1) sc__law_tokens.nd rfl (Or.inl rfl) (pe_ix ix_list (pe_lst (pa_cons pe_int (pa_cons pe_int (pa_cons pe_int (pa_cons pe_int (pa_cons pe_int (pa_cons pe_int (pa_cons pe_int (pa_cons pe_int pa_nil))))))))) (pc (cal__law_take T) hr (by decide) L2.pass0 rfl (pa_cons (pv 0) (pa_cons pe_int pa_nil))) (fun _ _ => rfl)))
 (pss_cons (ps_set (i := 2) sc__law_tokens.nd rfl (Or.inl rfl) (pe_lst pa_nil))
 (pss_cons (ps_for PassesOwn.never rfl (pi_range1 rfl T.n_range (pa_cons (pc (cal__law_take T) hr (by decide) L2.pass0 rfl (pa_cons (pv 0) (pa_cons (pe_ix ix_list (pe_lst (pa_cons pe_int (pa_cons pe_int pa_nil))) (pe_callTy call_int1 (by rfl) T.n_int (by decide +kernel) (pa_cons (pe_cmpR op_eq (pv 1) pe_int (nomark _)) pa_nil)) (fun _ _ => rfl)) pa_nil))) pa_nil)) (pg_name (i := 3) sc__law_tokens.nd rfl (Or.inl rfl))
 (pss_cons (ps_expr (pe_bm PySem.F.plainAttrs_list PySem.F.slot_list_append PySem.F.type_list_append mt_append (pv 2) (pa_cons (pc (cal__law_token T) hr (by decide) L2.pass0 rfl (pa_cons (pv 0) pa_nil)) pa_nil)))
 (pss_one (ps_if (pt_cmpR op_eq (pc (cal__law_take T) hr (by decide) L2.pass0 rfl (pa_cons (pv 0) (pa_cons pe_int pa_nil))) pe_int (nomark _))
 (pss_one (ps_expr (pe_bm PySem.F.plainAttrs_list PySem.F.slot_list_append PySem.F.type_list_append mt_append (pv 2) (pa_cons (pe_ix ix_list (pv 2) (pe_un un_neg pe_int) (fun _ _ => rfl)) pa_nil))))
 pss_nil))))
 (pss_cons (ps_set (i := 4) sc__law_tokens.nd rfl (Or.inl rfl) (pe_lst pa_nil))
 (pss_cons (ps_set (i := 5) sc__law_tokens.nd rfl (Or.inl rfl) pe_int)
 (pss_cons (ps_for PassesOwn.never rfl (pi_list (pe_op op_rep (pv 2) (pv 1))) (pg_name (i := 6) sc__law_tokens.nd rfl (Or.inl rfl))
 (pss_cons (ps_set (i := 5) sc__law_tokens.nd rfl (Or.inl rfl) (pe_op op_add (pe_op op_add (pv 5) (pe_callB call_len_str (by rfl) T.n_len (by decide +kernel) (pa_cons (pv 6) pa_nil))) pe_int))
 (pss_one (ps_if (pt_cmpR op_lt (pv 5) pe_int (nomark _))
 (pss_one (ps_expr (pe_bm PySem.F.plainAttrs_list PySem.F.slot_list_append PySem.F.type_list_append mt_append (pv 4) (pa_cons (pv 6) pa_nil))))
 pss_nil))))
 (pss_one (ps_ret (pv 4)))))))))), ?_⟩)⟩
  obtain ⟨b, rfl, B, kQ⟩ := h
  refine ⟨(by show 8 ≤ sizeLine; decide), fun p2 hp2 => ⟨_, rfl, b, 8, rfl, B.new hp2, by decide, by decide, fun q2 H2 q20 q21 B2 k2 => ?_⟩⟩
  have hp22 := k2.one upd_same (Ne.symm (B.ne hp2))
  obtain ⟨t, ht, t01⟩ : ∃ m : Int, atI [V.int 1, V.int 1, V.int 1, V.int 1, V.int 1, V.int 1, V.int 1, V.int 60] q2 = some (V.int m) ∧ (m = 1 ∨ m = 60) := by
    rcases (show q2 = 0 ∨ q2 = 1 ∨ q2 = 2 ∨ q2 = 3 ∨ q2 = 4 ∨ q2 = 5 ∨ q2 = 6 ∨ q2 = 7 by omega) with rfl | rfl | rfl | rfl | rfl | rfl | rfl | rfl
    all_goals exact ⟨_, rfl, by decide⟩
  refine ⟨p2, _, _, _, rfl, rfl, SqL.of hp22, ht, Nat.zero_le _, fun l hl => ?_⟩
  have k02 : Keep [b] H H2 := (Keep.refl.new hp2).trans k2
  have hH0 : H l = none := k02.free (B2.ne hl) hl
  have nbl : b ≠ l := B2.ne hl
  generalize hZ : upd _ l _ = H3
  have e3 := at_of3 hZ
  have S3 := same_of3 hZ hl
  clear hZ
  have B3 := B2.same S3
  have k03 : Keep [b] H H3 := k02.same2 S3
  refine ⟨_, rfl, (by show 2 ≤ sizeLine; decide), fun p4 hp4 => ?_⟩
  generalize hZ : upd _ p4 _ = H4
  have e4 := at_of3 hZ
  have S4 := same_of3 hZ hp4
  clear hZ
  have B4 := B3.same S4
  have k04 := k03.same2 S4
  obtain ⟨most, hmost, mo0, mo1⟩ : ∃ m : Int, atI [V.int 31, V.int 4] (if decide (V.int t = V.int 60) = true then 1 else 0) = some (V.int m) ∧ 0 < m ∧ (t = 1 → m ≤ 31) ∧ (t = 60 → m ≤ 4) := by
    rcases t01 with rfl | rfl
    · exact ⟨31, rfl, by decide, by decide, by decide⟩
    · exact ⟨4, rfl, by decide, by decide, by decide⟩
  refine ⟨_, rfl, rfl, .inr ⟨_, rfl, p4, _, _, _, rfl, rfl, SqL.of e4, hmost, b, most, rfl, B4, mo0, by omega, fun n H5 n0 n1 B5 k5 => ⟨_, rfl, by omega, by omega, ?_⟩⟩⟩
  have k05 := k04.trans k5
  have e5 := k5.one (S4 _ _ e3) nbl.symm
  refine for_range (fun i σ H' => BagAt H' b ∧ Keep [b] H H' ∧ ∃ (ws : List Str) (o : Option V), σ = [some (.ref b), some (.int t), some (.ref l), o, none, none, none] ∧ H' l = some (.lst (ws.map V.str)) ∧ Toks ws ∧ (∀ w ∈ ws, w.length ≤ 6) ∧ ws.length ≤ 2 * i) ⟨B5, k05, [], none, rfl, e5, (fun _ h => by simp at h), by simp, by simp⟩ ?_ ?_
  · rintro i σ H6 hi ⟨B6, k6, ws, o, rfl, e6, hT, h6, hl6⟩
    refine ⟨_, rfl, .inl ⟨rfl, _, SqL.of e6⟩, _, rfl, b, rfl, B6, fun w H7 hw hw6 B7 k7 => ?_⟩
    have e7 := k7.one e6 nbl.symm
    refine ⟨l, _, _, rfl, rfl, e7, by rw [List.length_map, ss]; omega, ?_⟩
    have e8 : ∀ {o : HO}, (upd H7 l o) l = some o := upd_same
    have B8 : ∀ {o : HO}, BagAt (upd H7 l o) b := fun {o} => (bag_mut b).new _ _ _ B7 nbl
    have k8 : ∀ {o : HO}, Keep [b] H (upd H7 l o) := fun {o} => (k6.trans k7).made hH0
    refine ⟨_, rfl, b, 4, rfl, B8, by decide, by decide, fun r H9 r0 r1 B9 k9 => ⟨rfl, _, rfl, ?_⟩⟩
    have e9 := k9.one e8 nbl.symm
    have em : ws.map V.str ++ [V.str w] = (ws ++ [w]).map V.str := by rw [List.map_append]; rfl
    rw [em] at e9
    have h6' : ∀ v ∈ ws ++ [w], v.length ≤ 6 := fun v hv => (List.mem_append.mp hv).elim (h6 v) (fun h => by rw [List.mem_singleton] at h; subst h; exact hw6)
    refine iteD (fun c => ?_) (fun c => ?_)
    · refine ⟨_, rfl, .inl ⟨rfl, _, SqL.of e9⟩, _, rfl, _, rfl, l, _, _, _, rfl, rfl, SqL.of e9, (by rw [← em]; exact atI_last _ _), ?_⟩
      refine ⟨l, _, _, rfl, rfl, e9, by rw [List.length_map, List.length_append, ss]; show ws.length + 1 < _; omega, ?_⟩
      refine ⟨(bag_mut b).new _ _ _ B9 nbl, (k8.trans k9).made hH0, ws ++ [w] ++ [w], _, rfl, ?_, (hT.snoc hw).snoc hw, ?_, ?_⟩
      · rw [upd_same]; simp
      · intro v hv
        rcases List.mem_append.mp hv with h | h
        · exact h6' v h
        · rw [List.mem_singleton] at h; subst h; exact hw6
      · rw [List.length_append, List.length_append]; show ws.length + 1 + 1 ≤ _; omega
    · exact ⟨B9, k8.trans k9, ws ++ [w], _, rfl, e9, hT.snoc hw, h6', by rw [List.length_append]; show ws.length + 1 ≤ _; omega⟩
  · rintro σ H6 ⟨B6, k6, ws, o, rfl, e6, hT, h6, hl6⟩
    refine ⟨Nat.zero_le _, fun f hf => ?_⟩
    have nbf := B6.ne hf
    have hf0 := k6.free nbf hf
    generalize hZ : upd _ f _ = H7
    have e7 := at_of3 hZ
    have S7 := same_of3 hZ hf
    clear hZ
    have B7 := B6.same S7
    have k7 := k6.same2 S7
    have hlen : ws.length * t.toNat ≤ 3600 := by
      rcases t01 with rfl | rfl
      · have := mo1.1 rfl; show ws.length * 1 ≤ _; omega
      · have := mo1.2 rfl; show ws.length * 60 ≤ _; omega
    refine ⟨_, rfl, _, rfl, l, t, _, rfl, rfl, S7 _ _ e6, by omega, by omega, by rw [List.length_map]; exact line_of (by omega), fun m hm => ?_⟩
    have nbm := B7.ne hm
    generalize hZ : upd _ m _ = H8
    have e8 := at_of3 hZ
    have S8 := same_of3 hZ hm
    clear hZ
    have B8 := B7.same S8
    have k8 := k7.same2 S8
    have nfm : f ≠ m := ne_of_none e7 hm
    have er : (List.replicate t.toNat (ws.map V.str)).flatten = ((List.replicate t.toNat ws).flatten).map V.str := by
      rw [List.map_flatten, List.map_replicate]
    rw [er] at e8
    have hM : ∀ w ∈ (List.replicate t.toNat ws).flatten, isTk (cl w) ∧ w.length ≤ 6 := fun w hw => ⟨hT w (mem_rep hw), h6 w (mem_rep hw)⟩
    have hMl : ((List.replicate t.toNat ws).flatten).length ≤ 3600 := by
      rw [List.length_flatten, List.map_replicate, List.sum_replicate_nat, Nat.mul_comm]; exact hlen
    generalize (List.replicate t.toNat ws).flatten = rs at e8 hM hMl
    refine ⟨_, rfl, ⟨rs.map V.str, SqL.of e8⟩, ?_⟩
    refine for_list (K := K) (a := m) (xs := rs.map V.str) (fun i σ H' => Keep [f] H8 H' ∧ ∃ (fs : List Str) (z : Int) (o : Option V), σ = [some (.ref b), some (.int t), some (.ref l), σ.getD 3 none, some (.ref f), some (.int z), o] ∧ H' f = some (.lst (fs.map V.str)) ∧ Toks fs ∧ sumS fs ≤ 400 ∧ 0 ≤ z ∧ (sumS fs : Int) ≤ z) ⟨Keep.refl, [], 0, none, rfl, S8 _ _ e7, (fun _ h => by simp at h), by decide, by decide, by decide⟩ (fun i σ H' _ h => SqL.of (h.1.one e8 nfm.symm)) ?_ ?_
    · rintro i x σ H9 hx ⟨k9, fs, z, o2, hσ, e9, hF, hs4, hz0, hsz⟩
      rw [List.getElem?_map] at hx
      obtain ⟨w, hw, rfl⟩ : ∃ w, rs[i]? = some w ∧ x = V.str w := by
        cases q : rs[i]? with
        | none => rw [q] at hx; cases hx
        | some w => rw [q] at hx; exact ⟨w, rfl, (Option.some.inj hx).symm⟩
      obtain ⟨tw, lw⟩ := hM w (List.mem_of_getElem? hw)
      generalize σ.getD 3 none = o3 at hσ
      subst hσ
      refine ⟨_, rfl, _, rfl, w, rfl, line_of (by omega), _, _, rfl, rfl, _, _, rfl, rfl, ?_⟩
      refine ⟨_, rfl, _, _, rfl, rfl, _, rfl, iteD (fun c => ?_) (fun c => ?_)⟩
      · have hl5 := sumS_len fs
        have hsn := sumS_snoc fs w
        refine ⟨_, rfl, .inl ⟨rfl, _, SqL.of e9⟩, _, rfl, f, _, _, rfl, rfl, e9, by rw [List.length_map]; rw [ss]; omega, ?_⟩
        exact ⟨k9.upd, fs ++ [w], _, _, rfl, by rw [upd_same]; simp, hF.snoc tw, by omega, by omega, by omega⟩
      · exact ⟨k9, fs, _, _, rfl, e9, hF, hs4, by omega, by omega⟩
    · rintro σ H9 ⟨k9, fs, z, o2, hσ, e9, hF, hs4, hz0, hsz⟩
      generalize σ.getD 3 none = o3 at hσ
      subst hσ
      refine ⟨_, rfl, kQ fs f H9 hf0 hF hs4 e9 ?_ (k8.mix k9 hf0)⟩
      obtain ⟨x1, x2, x3, x4⟩ := B8
      exact ⟨x1, x2, k9.one x3 nbf, x4⟩
theorem cal__law_tokens {P : Program} {w : World} {K : PySem.W.Frag} {mg : Str → Option Value} {base : Heap} (T : Top w K mg) : Callee P w K mg base CX0 3 "_law_tokens" sp__law_tokens [] := by
  obtain ⟨fd, F, S⟩ := ok__law_tokens (P := P) T
  exact ⟨fd, _, [], S base, T.g__law_tokens, F.kp, F.bindsN (fun _ _ _ _ _ _ us hl => match us, hl with | [_], _ => rfl), .nil⟩

def sp__law_parts : Sp := fun vs H Q _ => ∃ (x y : Str), vs = [.str x, .str y] ∧ x.length ≤ 1000 ∧ y.length ≤ 1000 ∧ isTk (cl x) ∧ isTk (cl y) ∧ ∀ H', Same H H' → Q (.bl (!apart (cl x) (cl y))) H'
theorem ok__law_parts {P : Program} {w : World} {K : PySem.W.Frag} {mg : Str → Option Value} (T : Top w K mg) : ∃ fd : FuncData, FunD K "_law_parts" "_law_parts" (defArgs st__law_parts) (defBody st__law_parts) (defScope st__law_parts) (dd__law_parts.dvs K) (dd__law_parts.kws K) (He.ga K "_law_parts") fd ∧ ∀ base : Heap, FnOk P w K mg base CX0 1 (He.ga K "_law_parts") fd ["_law_one", "_law_other"] sp__law_parts := by
  obtain ⟨fd, F⟩ := T.f__law_parts
  refine ⟨fd, F, fun base => F.ok sc__law_parts (fun vs H Q E h => by obtain ⟨_, _, rfl, _⟩ := h; rfl) (fun cdv A outer s H vs Q E hr h => ⟨_, PSs.nox
 ((pss_cons (ps_set (i := 2) sc__law_parts.nd rfl (Or.inl rfl) pe_str)
 (pss_cons (ps_if (PW.pt (pw_and (pt_cmpR op_in_sign (pe_ix ix_str (pv 0) (pe_un un_neg pe_int) (fun _ _ => rfl)) (pv 2) (by rfl)) (pw_and (pt_cmpR op_ne (pe_ix ix_str (pv 0) pe_int (fun _ _ => rfl)) pe_str (nomark _)) (pw_and1 (pt_cmpR op_in_sign (pe_ix ix_str (pv 1) pe_int (fun _ _ => rfl)) (pv 2) (by rfl))))))
 (pss_one (ps_ret pe_bl))
 pss_nil)
 (pss_one (ps_ret (pe_and (pe_cmpR op_eq (pe_callB call_len_str (by rfl) T.n_len (by decide +kernel) (pa_cons (pv 0) pa_nil)) pe_int (nomark _)) (pe_one (pe_cmpR op_in_seq (pe_op op_add_str (pv 0) (pe_ix ix_str (pv 1) pe_int (fun _ _ => rfl))) (pe_lst (pa_cons pe_str (pa_cons pe_str (pa_cons pe_str (pa_cons pe_str (pa_cons pe_str (pa_cons pe_str (pa_cons pe_str pa_nil)))))))) (by rfl))))))))), ?_⟩)⟩
  obtain ⟨x, y, rfl, hx, hy, tx, ty, kQ⟩ := h
  rw [← parts_eq tx ty.ne] at kQ
  have hcx := cl_len x
  have hcy := cl_len y
  obtain ⟨c, r, ex, _, _⟩ := tx
  obtain ⟨a, d, ey, _, _⟩ := ty
  have hx0 : (cl x)[0]? = some c := by rw [ex]; rfl
  have hy0 : (cl y)[0]? = some a := by rw [ey]; rfl
  have e1 : (cl x).getD 0 0 = c := by rw [ex]; rfl
  have e2 : (cl y).getD 0 0 = a := by rw [ey]; rfl
  have el : atI (cl x) (-1) = some ((cl x).getLastD 0) := at_last ex
  unfold partsL at kQ
  rw [e1, e2] at kQ
  refine step_asgC ?_
  dsimp only
  refine seq_cut (fun σ H' => H' = H ∧ σ = [some (.str x), some (.str y), some (.str ("abcdefghijklmnopqrstuvwxyzABCDEFGHIJKLMNOPQRSTUVWXYZ0123456789" : Str))] ∧ (isLF ((cl x).getLastD 0) && (decide (c ≠ 34) && isLF a)) = false) ?_ ?_
  · rintro σ' H' ⟨rfl, rfl, g⟩
    rw [g, Bool.false_or] at kQ
    refine ⟨_, rfl, x, rfl, line_of (by omega), rfl, _, rfl, ?_⟩
    refine iteD (fun h1 => ?_) (fun h1 => ?_)
    · have h1' : (cl x).length = 1 := by have := V.int.inj h1; omega
      have er : cl x = [c] := by
        rw [ex] at h1' ⊢
        have : r = [] := List.eq_nil_of_length_eq_zero (by simpa using h1')
        rw [this]
      rw [decide_eq_true h1', Bool.true_and] at kQ
      refine ⟨_, rfl, _, rfl, y, _, _, rfl, rfl, line_of (by omega), atI_nat (j := 0) hy0, _, _, rfl, rfl, line_of (by rw [len1]; omega), (by show 7 ≤ sizeLine; decide), fun q hq => ?_⟩
      generalize hZ : upd _ q _ = H3
      have e3 := at_of3 hZ
      have S3 := same_of3 hZ hq
      clear hZ
      refine ⟨_, _, rfl, .inl (SqL.of e3), rfl, rfl, ?_⟩
      have ep := in_prs (x ++ ⟨#[a]⟩)
      rw [cl_append, er] at ep
      show Q (.bl (inV (.str (x ++ ⟨#[a]⟩)) _)) H3
      rw [show inV (.str (x ++ ⟨#[a]⟩)) _ = _ from ep]
      exact kQ H3 S3
    · have h1' : ¬ (cl x).length = 1 := fun e => h1 (by rw [← hcx, e]; rfl)
      rw [decide_eq_false h1', Bool.false_and] at kQ
      exact kQ H' (Same.refl _)
  · intro F hF
    have fin : (isLF ((cl x).getLastD 0) && (decide (c ≠ 34) && isLF a)) = false → F [some (.str x), some (.str y), some (.str ("abcdefghijklmnopqrstuvwxyzABCDEFGHIJKLMNOPQRSTUVWXYZ0123456789" : Str))] H := fun g => hF _ _ ⟨rfl, rfl, g⟩
    clear hF
    refine ⟨_, rfl, _, rfl, x, _, _, rfl, rfl, line_of (by omega), el, _, rfl, _, _, rfl, rfl, _, rfl, ?_⟩
    rw [← LF_mem]
    refine iteB (fun g1 => ?_) (fun g1 => fin (by rw [g1, Bool.false_and]))
    refine ⟨_, rfl, x, _, _, rfl, rfl, line_of (by omega), atI_nat (j := 0) hx0, rfl, _, rfl, ?_⟩
    rw [V_q]
    refine iteDN (fun g2 => ?_) (fun g2 => fin (by rw [decide_eq_false (fun h => h g2), Bool.false_and, Bool.and_false]))
    refine ⟨_, rfl, y, _, _, rfl, rfl, line_of (by omega), atI_nat (j := 0) hy0, _, rfl, _, _, rfl, rfl, _, rfl, ?_⟩
    rw [← LF_mem]
    refine iteB (fun g3 => ?_) (fun g3 => fin (by rw [g3, Bool.and_false, Bool.and_false]))
    rw [g1, decide_eq_true g2, g3] at kQ
    exact kQ H (Same.refl _)
theorem cal__law_parts {P : Program} {w : World} {K : PySem.W.Frag} {mg : Str → Option Value} {base : Heap} (T : Top w K mg) : Callee P w K mg base CX0 1 "_law_parts" sp__law_parts [] := by
  obtain ⟨fd, F, S⟩ := ok__law_parts (P := P) T
  exact ⟨fd, _, [], S base, T.g__law_parts, F.kp, F.bindsN (fun _ _ _ _ _ _ us hl => match us, hl with | [_, _], _ => rfl), .nil⟩

/-! ### the written text as due -/
def sp__law_due (K : PySem.W.Frag) : Sp := fun vs H Q _ => ∃ (p : Addr) (ws : List Str), vs = [.ref p] ∧ H p = some (.lst (ws.map V.str)) ∧ Toks ws ∧ sumS ws ≤ 1000 ∧ ∀ (z : Str) (H' : Hp), cl z = wr none (ws.map cl) → Same H H' → Q (.str z) H'
theorem sumL_S : ∀ ws : List Str, sumL (ws.map cl) = sumS ws
  | [] => rfl
  | w :: ws => by
    have := sumL_S ws
    unfold sumL sumS at this ⊢
    rw [List.map_cons, List.map_cons, List.sum_cons, List.map_cons, List.sum_cons, this, cl_len]
theorem wr_none_snoc {ws : List (List Nat)} {l w : List Nat} (h : lastOf none ws = some l) : wr none (ws ++ [w]) = wr none ws ++ (if apart l w then w else 32 :: w) := by
  rw [wr_app, h]
  show _ ++ ((if apart l w then w else 32 :: w) ++ []) = _
  rw [List.append_nil]
theorem lastOf_snoc (o : Option (List Nat)) (ws : List (List Nat)) (w : List Nat) : lastOf o (ws ++ [w]) = some w := by
  rw [last_app]; rfl
theorem ok__law_due {P : Program} {w : World} {K : PySem.W.Frag} {mg : Str → Option Value} (T : Top w K mg) : ∃ fd : FuncData, FunD K "_law_due" "_law_due" (defArgs st__law_due) (defBody st__law_due) (defScope st__law_due) (dd__law_due.dvs K) (dd__law_due.kws K) (He.ga K "_law_due") fd ∧ ∀ base : Heap, FnOk P w K mg base CX0 2 (He.ga K "_law_due") fd ["_law_tokens_here"] (sp__law_due K) := by
  obtain ⟨fd, F⟩ := T.f__law_due
  refine ⟨fd, F, fun base => F.ok sc__law_due (fun vs H Q E h => by obtain ⟨_, _, rfl, _⟩ := h; rfl) (fun cdv A outer s H vs Q E hr h => ⟨_, PSs.nox
 ((pss_cons (ps_set (i := 1) sc__law_due.nd rfl (Or.inl rfl) pe_str)
 (pss_cons (ps_for PassesOwn.never rfl (pi_enum (by rfl) T.n_enumerate (pa_cons (pv 0) pa_nil)) (pg_tup rfl (pgs_cons (pg_name (i := 2) sc__law_due.nd rfl (Or.inl rfl)) (pgs_cons (pg_name (i := 3) sc__law_due.nd rfl (Or.inl rfl)) pgs_nil)))
 (pss_cons (ps_if (PW.pt (pw_and (pt_cmpR op_gt (pv 2) pe_int (nomark _)) (pw_and1 (pt_val (pc (cal__law_parts T) hr (by decide) L2.pass0 rfl (pa_cons (pe_ix ix_list (pv 0) (pe_op op_sub (pv 2) pe_int) (fun _ _ => rfl)) (pa_cons (pv 3) pa_nil)))))))
 (pss_one (ps_set (i := 1) sc__law_due.nd rfl (Or.inl rfl) (pe_op op_add_str (pv 1) pe_str)))
 pss_nil)
 (pss_one (ps_set (i := 1) sc__law_due.nd rfl (Or.inl rfl) (pe_op op_add_str (pv 1) (pv 3))))))
 (pss_one (ps_ret (pv 1)))))), ?_⟩)⟩
  obtain ⟨p, ws, rfl, hp, hT, hs, kQ⟩ := h
  refine ⟨_, rfl, p, _, rfl, SqL.of hp, ?_⟩
  refine for_it walk_enum (fun i σ H' => Same H H' ∧ ∃ (z : Str) (o1 o2 : Option V), σ = [some (.ref p), some (.str z), o1, o2] ∧ cl z = wr none ((ws.take i).map cl)) ⟨Same.refl H, "", none, none, rfl, nil_s⟩ (fun i σ H' _ h => h.1.seq (SqL.of hp)) ?_ ?_
  · rintro i x σ H1 H2 hi ⟨S1, z, o1, o2, rfl, hz⟩ ⟨T1, v1, v2, rfl, hT1, hH2, hv1, hv2⟩
    subst hH2
    cases hv1
    obtain ⟨w, hw, rfl⟩ := map_at (f := V.str) hv2
    generalize hZ : upd _ T1 _ = H2
    have e2 := at_of3 hZ
    have S2 := same_of3 hZ hT1
    clear hZ
    have wm := List.mem_of_getElem? hw
    have wl := Nat.le_trans (sumS_mem wm) hs
    have et : (ws.take (i + 1)).map cl = (ws.take i).map cl ++ [cl w] := by rw [take_more hw, List.map_append]; rfl
    have hzl : z.length ≤ 1000 := by
      rw [← cl_len, hz]
      refine Nat.le_trans (wr_len _ _) ?_
      rw [List.map_take]
      refine Nat.le_trans (sumL_take _ _) ?_
      rw [sumL_S]; exact hs
    refine ⟨T1, _, rfl, SqT.of e2, rfl, _, _, rfl, _, _, rfl, rfl, ?_⟩
    refine ⟨_, rfl, _, _, rfl, rfl, _, rfl, ?_⟩
    have hlz := len_append z (" " : Str)
    rw [str_len_b] at hlz
    cases i with
    | zero =>
      refine iteF ⟨_, rfl, _, rfl, _, _, rfl, rfl, line_of (by omega), S1.trans S2, _, _, _, rfl, ?_⟩
      rw [et, cl_append, hz]
      show _ = cl w ++ []
      rw [List.append_nil]; rfl
    | succ j =>
      have hj : j < ws.length := by
        have := (List.getElem?_eq_some_iff.mp hw).1
        omega
      obtain ⟨u, hu⟩ : ∃ u, ws[j]? = some u := ⟨_, List.getElem?_eq_getElem hj⟩
      have um := List.mem_of_getElem? hu
      have ul := Nat.le_trans (sumS_mem um) hs
      have hL : lastOf none ((ws.take (j + 1)).map cl) = some (cl u) := by rw [take_more hu, List.map_append]; exact lastOf_snoc _ _ _
      have hau : atI (ws.map V.str) (((j + 1 : Nat) : Int) - 1) = some (V.str u) := by
        rw [show (((j + 1 : Nat) : Int) - 1) = (j : Int) by omega]
        exact atI_nat (by rw [List.getElem?_map, hu]; rfl)
      refine iteD (fun _ => ?_) (fun g => absurd (by omega) g)
      refine ⟨_, rfl, _, rfl, _, _, rfl, rfl, p, _, _, _, rfl, rfl, S2.seq (S1.seq (SqL.of hp)), hau, _, rfl, u, w, rfl, by omega, by omega, hT u um, hT w wm, fun H3 S3 => ⟨_, rfl, ?_⟩⟩
      rw [et, wr_none_snoc hL]
      refine iteB (fun g => ?_) (fun g => ?_)
      · have g' : apart (cl u) (cl w) = false := by simpa using g
        refine ⟨_, rfl, _, _, rfl, rfl, line_of (by rw [str_len_b]; omega), _, rfl, _, rfl, _, _, rfl, rfl, line_of (by omega), (S1.trans S2).trans S3, _, _, _, rfl, ?_⟩
        rw [cl_append, cl_append, hz, g', List.append_assoc, show cl (" " : Str) = [32] by rw [one_bl]]
        rfl
      · have g' : apart (cl u) (cl w) = true := by simpa using g
        refine ⟨_, rfl, _, rfl, _, _, rfl, rfl, line_of (by omega), (S1.trans S2).trans S3, _, _, _, rfl, ?_⟩
        rw [cl_append, hz, g']; rfl
  · rintro σ H1 ⟨S1, z, o1, o2, rfl, hz⟩
    rw [List.length_map, List.take_length] at hz
    exact ⟨_, rfl, kQ z H1 hz S1⟩
theorem cal__law_due {P : Program} {w : World} {K : PySem.W.Frag} {mg : Str → Option Value} {base : Heap} (T : Top w K mg) : Callee P w K mg base CX0 2 "_law_due" (sp__law_due K) [] := by
  obtain ⟨fd, F, S⟩ := ok__law_due (P := P) T
  exact ⟨fd, _, [], S base, T.g__law_due, F.kp, F.bindsN (fun _ _ _ _ _ _ us hl => match us, hl with | [_], _ => rfl), .nil⟩

/-! ### written, read again -/
def sp__law_right (K : PySem.W.Frag) : Sp := fun vs H Q _ => ∃ (p : Addr) (ws : List Str) (made : Bool), vs = [.ref p, .bl made] ∧ H p = some (.lst (ws.map V.str)) ∧ Toks ws ∧ sumS ws ≤ 1000 ∧ ∀ H', Same H H' → Q (.bl true) H'
theorem texts_pcOf {page : Str} {number : Int} (t : List Tk) : texts (t.map (pcOf page number)) = t.map (·.1) := by
  unfold texts; rw [List.map_map]; rfl
theorem map_cl_inj : ∀ {vs ws : List Str}, vs.map cl = ws.map cl → vs = ws
  | [], [], _ => rfl
  | [], _ :: _, h => by cases h
  | _ :: _, [], h => by cases h
  | a :: vs, b :: ws, h => by
    rw [List.map_cons, List.map_cons, List.cons.injEq] at h
    rw [str_eq.mpr h.1, map_cl_inj h.2]
theorem cal_pieces_of_1 {P : Program} {w : World} {K : PySem.W.Frag} {mg : Str → Option Value} {base : Heap} (T : Top w K mg) : Callee P w K mg base CX0 3 "pieces_of" (sp_pieces_of K) [V.str "", V.int 0] := by
  obtain ⟨fd, F, S⟩ := ok_pieces_of (P := P) T
  obtain ⟨ds, hV, hB⟩ := F.binds0 (ps := ["row", "page", "number"]) 1 (fun z => nomatch z) rfl (fun _ _ _ _ _ _ us ks h1 h2 => match us, ks, h1, h2 with | [_], [_, _], _, _ => ⟨_, _, _, _, _, _, rfl, rfl, ⟨_, _, _, _, _, _, rfl, rfl, rfl⟩⟩)
  exact ⟨fd, _, ds, S base, T.g_pieces_of, F.kp, hB, hV⟩
theorem mkr_Piece_init_3 {P : Program} {w : World} {K : PySem.W.Frag} {mg : Str → Option Value} {base : Heap} (T : Top w K mg) : Maker P w K mg base CX0 1 "Piece" (sp_Piece_init K) [] := by
  obtain ⟨fd, F, S⟩ := ok_Piece_init (P := P) T
  obtain ⟨ds, hV, hB⟩ := F.binds1 (ps := ["self", "text", "signs", "paint"]) 4 1 (fun z => nomatch z) rfl (fun _ _ _ _ _ _ _ us its h1 h2 => match us, its, h1, h2 with | [_, _, _, _], [_], _, _ => ⟨_, rfl, rfl⟩)
  exact ⟨_, fd, _, ds, T.mk_Piece, S base, T.g_Piece, hB, hV⟩
theorem ok__law_right {P : Program} {w : World} {K : PySem.W.Frag} {mg : Str → Option Value} (T : Top w K mg) : ∃ fd : FuncData, FunD K "_law_right" "_law_right" (defArgs st__law_right) (defBody st__law_right) (defScope st__law_right) (dd__law_right.dvs K) (dd__law_right.kws K) (He.ga K "_law_right") fd ∧ ∀ base : Heap, FnOk P w K mg base CX0 5 (He.ga K "_law_right") fd ["_law_tokens_here", "_law_made"] (sp__law_right K) := by
  obtain ⟨fd, F⟩ := T.f__law_right
  refine ⟨fd, F, fun base => F.ok sc__law_right (fun vs H Q E h => by obtain ⟨_, _, _, rfl, _⟩ := h; rfl) (fun cdv A outer s H vs Q E hr h => ⟨_, PSs.nox
 ((pss_cons (ps_set (i := 2) sc__law_right.nd rfl (Or.inl rfl) (pc (cal_pieces_of_1 T) hr (by decide) L2.pass0 rfl (pa_cons (pe_join pe_str (pv 0)) pa_nil)))
 (pss_cons (ps_if (pt_val (pv 1))
 (pss_one (ps_setLc (i := 2) (own := [("_law_token_here", 6)]) (g := gName 6) (tt := tYes) rfl sc__law_right.nd rfl rfl (sw_true rfl rfl rfl (by decide +kernel)) (pi_list (pv 0)) (blkOk_by (N := ["_law_tokens_here", "_law_made", "_law_group", "_law_kept", "_law_found", "_law_again", "_law_token_here", "_law_k", "_law_piece"]) (sc := defScope st__law_right) (by decide +kernel)) (fun _ _ _ _ _ => pg_name (i := 6) sc__law_right.nd rfl (Or.inl rfl)) (fun _ _ _ _ _ => pts_nil) (fun _ _ _ _ _ => (pmkG (K := K) rfl (mkr_Piece_init_3 T) hr (by decide) L2.pass0 rfl (pa_cons (pv 6) (pa_cons (pe_tupleOfG (K := K) rfl (by rfl) T.n_tuple (pe_lc (own := [("_law_k", 7)]) (g := gName 7) (tt := tYes) rfl sc__law_right.nd (pi_range1 rfl T.n_range (pa_cons (pe_callB call_len_str (by rfl) T.n_len (by decide +kernel) (pa_cons (pv 6) pa_nil)) pa_nil)) (blkOk_by (by rfl)) (fun _ _ _ _ _ => pg_name (i := 7) sc__law_right.nd rfl (Or.inl rfl)) (fun _ _ _ _ _ => pts_nil) (fun _ _ _ _ _ => (pe_tup (pa_cons pe_str (pa_cons pe_int (pa_cons (pv 7) (pa_cons (pe_tup (pa_cons pe_str pa_nil)) pa_nil)))))))) (pa_cons (pe_tup (pa_cons pe_str pa_nil)) pa_nil)))))))
 pss_nil)
 (pss_cons (ps_set (i := 3) sc__law_right.nd rfl (Or.inl rfl) (pe_callTy call_list_of (by rfl) T.n_list (by decide +kernel) (pa_cons (pv 2) pa_nil)))
 (pss_cons (ps_set (i := 4) sc__law_right.nd rfl (Or.inl rfl) (pc (cal_written T) hr (by decide) L2.pass0 rfl (pa_cons (pv 2) pa_nil)))
 (pss_cons (ps_if (PW.pt (pw_or (pt_not (pt_val (pe_callB call_isi (by rfl) T.n_isinstance (by decide +kernel) (pa_cons (pv 4) (pa_cons (pe_bltn (v := .ty "str") (by rfl) T.n_str (by decide +kernel) rfl) pa_nil))))) (pw_or (pt_cmpR op_ne (pv 4) (pc (cal__law_due T) hr (by decide) L2.pass0 rfl (pa_cons (pv 0) pa_nil)) (nomark _)) (pw_or1 (pt_cmpR (op_neW hr.units) (pv 2) (pv 3) (nomark _))))))
 (pss_one (ps_ret pe_bl))
 pss_nil)
 (pss_cons (ps_set (i := 5) sc__law_right.nd rfl (Or.inl rfl) (pc (cal_pieces_of_1 T) hr (by decide) L2.pass0 rfl (pa_cons (pv 4) pa_nil)))
 (pss_one (ps_ret (pe_and (pe_cmpR (op_eqW hr.units) (pe_lc (own := [("_law_piece", 8)]) (g := gName 8) (tt := tYes) rfl sc__law_right.nd (pi_list (pv 5)) (blkOk_by (N := ["_law_tokens_here", "_law_made", "_law_group", "_law_kept", "_law_found", "_law_again", "_law_token_here", "_law_k", "_law_piece"]) (sc := defScope st__law_right) (by decide +kernel)) (fun _ _ _ _ _ => pg_name (i := 8) sc__law_right.nd rfl (Or.inl rfl)) (fun _ _ _ _ _ => pts_nil) (fun _ _ _ _ _ => (pe_fldG (K := K) rfl (pv 8) rfl))) (pv 0) (nomark _)) (pe_one (pe_cmpR op_eq (pc (cal_written T) hr (by decide) L2.pass0 rfl (pa_cons (pv 5) pa_nil)) (pv 4) (nomark _))))))))))))), ?_⟩)⟩
  obtain ⟨p, ws, made, rfl, hp, hT, hs, kQ⟩ := h
  have tT : ∀ w ∈ ws.map cl, isTk w := fun w hw => by
    obtain ⟨v, hv, rfl⟩ := List.mem_map.mp hw
    exact hT v hv
  obtain ⟨t, ht, htm⟩ := lex_wb 0 tT
  have hj : cl (Txt.join (" " : Str) ws) = wb (ws.map cl) := by rw [joinS, join_wb]
  have hjl : (Txt.join (" " : Str) ws).length ≤ 1000 := by
    rw [← cl_len, hj]
    exact Nat.le_trans (wb_len _) (by have := sumL_S ws; unfold sumL at this; rw [this]; exact hs)
  rw [← hj] at ht
  refine ⟨⟨_, rfl⟩, _, rfl, ?_⟩
  refine ⟨_, p, ws, rfl, rfl, .inl (SqL.of hp), ?_, _, "", 0, t, rfl, by omega, ht, fun g us H1 hg e1 P1 S1 => ?_⟩
  · rw [str_len_b, Nat.mul_one]
    have : ∀ l : List Str, (l.map (·.length)).sum + l.length ≤ sumS l := by
      intro l
      induction l with
      | nil => simp
      | cons a l ih => unfold sumS at ih ⊢; rw [List.map_cons, List.sum_cons, List.length_cons, List.map_cons, List.sum_cons]; omega
    exact Nat.le_trans (this ws) (by omega)
  have hx1 : texts (t.map (pcOf "" 0)) = ws.map cl := by rw [texts_pcOf, htm]
  dsimp only
  refine seq_cut (fun σ H' => Same H H' ∧ ∃ (g : Addr) (us : List V) (ps : List Pc), σ = [some (.ref p), some (.bl made), some (.ref g), none, none, none, none, none, none] ∧ H' g = some (.lst us) ∧ Paired (PcAt K H') us ps ∧ texts ps = ws.map cl) ?_ ?_
  · rintro σ' H2 ⟨S2, g, us, ps, rfl, e2, P2, hx⟩
    clear hx1 P1 e1
    refine ⟨_, rfl, g, us, rfl, .inl (SqL.of e2), fun kp hkp => ?_⟩
    generalize hZ : upd _ kp _ = H3
    have e3 := at_of3 hZ
    have S3 := same_of3 hZ hkp
    clear hZ
    have hne : ∀ x ∈ ps, cl x.text ≠ [] := fun x hx2 => (tT _ (by rw [← hx]; exact List.mem_map.mpr ⟨x, hx2, rfl⟩)).ne
    have hsz : sumL (texts ps) ≤ 1000 := by rw [hx, sumL_S]; exact hs
    refine ⟨_, rfl, g, us, ps, rfl, SqL.of (S3 _ _ e2), pcs_stay P2 S3.stay, hne, by omega, fun z hz => ?_⟩
    rw [hx] at hz
    refine ⟨_, rfl, _, .ty "str", _, _, _, rfl, .ty "str", .base (.str z), kit_ty (r := true) (by decide +kernel), ?_⟩
    refine ⟨_, rfl, _, rfl, _, rfl, p, ws, rfl, S3 _ _ (S2 _ _ hp), hT, hs, fun y H4 hy S4 => ?_⟩
    have ezy : z = y := str_eq.mpr (by rw [hz, hy])
    subst ezy
    refine ⟨rfl, _, rfl, iteDN (fun h => absurd rfl h) (fun _ => ?_)⟩
    refine ⟨_, rfl, _, rfl, 1, true, by decide, top_lst (SqL.of (S4 _ _ (S3 _ _ e2))) (SqL.of (S4 _ _ e3)) (seqE_ids us (pcs_refs P2)), _, rfl, ?_⟩
    obtain ⟨t2, ht2, ht2m⟩ := lex_wr 0 tT
    rw [← hy] at ht2
    have hzl : z.length ≤ 1000 := by
      rw [← cl_len, hy]
      refine Nat.le_trans (wr_len _ _) ?_
      rw [sumL_S]; exact hs
    refine ⟨_, rfl, z, "", 0, t2, rfl, by omega, ht2, fun a us2 H5 ha e5 P5 S5 => ?_⟩
    refine ⟨_, rfl, a, rfl, ⟨us2, SqL.of e5⟩, fun D hD => ?_⟩
    have hx5 : texts (t2.map (pcOf "" 0)) = ws.map cl := by rw [texts_pcOf, ht2m]
    have c := T.ci_Piece
    refine lc_list (K := K) (a := a) (fun i H' => Same H5 H' ∧ ∃ vs : List Str, H' D = some (.lst (vs.map V.str)) ∧ vs.map cl = (ws.map cl).take i ∧ vs.length = i) ⟨(Same.refl H5).new hD, [], upd_same, by simp, rfl⟩ (fun i H' _ h => SqL.of (h.1 _ _ e5)) ?_ ?_
    · rintro i x H6 hx6 ⟨S6, vs, e6, hv, hvl⟩
      obtain ⟨pc, hpc, pa⟩ := pAt P5 hx6
      obtain ⟨b, dx, sa, pa2, rfl, h1, h2, h3⟩ := pa.stay S6.stay
      have hpt : (ws.map cl)[i]? = some (cl pc.text) := by
        rw [← hx5]; unfold texts; rw [List.getElem?_map, hpc]; rfl
      refine ⟨rfl, _, rfl, b, _, dx, _, _, rfl, h1, c.cls, T.na_Piece_text, rfl, vs.map V.str, e6, ?_, S6.upd hD, vs ++ [pc.text], ?_, ?_, ?_⟩
      · have hi := (List.getElem?_eq_some_iff.mp hpt).1
        have hwl := sumS_len ws
        rw [List.length_map] at hi
        rw [List.length_map, ss]; omega
      · rw [upd_same]; simp
      · rw [List.map_append, hv, take_more hpt]; rfl
      · simp [hvl]
    · rintro H6 ⟨S6, vs, e6, hv, hvl⟩
      have hlen : us2.length = (ws.map cl).length := by rw [pLen P5, ← hx5]; unfold texts; rw [List.length_map, List.length_map, List.length_map]
      rw [hlen, List.take_length] at hv
      have evw : vs = ws := map_cl_inj hv
      subst evw
      have S46 : Same H4 H6 := S5.trans S6
      refine ⟨_, rfl, 1, true, by decide, top_lst (SqL.of e6) (SqL.of (S46 _ _ (S4 _ _ (S3 _ _ (S2 _ _ hp))))) (seqE_self _ (by rw [List.all_map]; exact List.all_eq_true.mpr fun _ _ => rfl)), _, rfl, ?_⟩
      have hne2 : ∀ x ∈ t2.map (pcOf "" 0), cl x.text ≠ [] := fun x hx2 => (tT _ (by rw [← hx5]; exact List.mem_map.mpr ⟨x, hx2, rfl⟩)).ne
      refine ⟨_, rfl, a, us2, _, rfl, SqL.of (S6 _ _ e5), pcs_stay P5 S6.stay, hne2, by rw [hx5, sumL_S]; omega, fun y hy2 => ?_⟩
      rw [hx5] at hy2
      have ezy : y = z := str_eq.mpr (by rw [hy2, hy])
      subst ezy
      refine ⟨_, rfl, rfl, ?_⟩
      rw [decide_eq_true rfl]
      exact kQ _ (((S2.trans S3).trans S4).trans S46)
  · intro F hF
    have fin : ∀ (H' : Hp) (g : Addr) (us : List V) (ps : List Pc), Same H H' → H' g = some (.lst us) → Paired (PcAt K H') us ps → texts ps = ws.map cl → F [some (.ref p), some (.bl made), some (.ref g), none, none, none, none, none, none] H' := fun H' g us ps a b c d => hF _ _ ⟨a, g, us, ps, rfl, b, c, d⟩
    clear hF
    refine ⟨_, rfl, _, rfl, ?_⟩
    cases made with
    | false => exact iteF (fin H1 g us _ S1 e1 P1 hx1)
    | true =>
      refine iteT ?_
      refine ⟨_, rfl, p, rfl, ⟨_, SqL.of (S1 _ _ hp)⟩, fun D hD => ?_⟩
      have hD0 := frees S1 hD
      have fone : ("f" : Str) = "f" := rfl
      refine lc_list (K := K) (a := p) (fun i H' => Same H1 H' ∧ ∃ (vs : List V) (ps : List Pc), H' D = some (.lst vs) ∧ Paired (PcAt K H') vs ps ∧ texts ps = (ws.map cl).take i ∧ vs.length = i) ⟨(Same.refl H1).new hD, [], [], upd_same, .nil, by simp [texts], rfl⟩ (fun i H' _ h => SqL.of (h.1 _ _ (S1 _ _ hp))) ?_ ?_
      · rintro i x H2 hx ⟨S2, vs, ps, e2, P2, hv, hvl⟩
        obtain ⟨w, hw, rfl⟩ := map_at (f := V.str) hx
        have wm := List.mem_of_getElem? hw
        have wl := Nat.le_trans (sumS_mem wm) hs
        have hi := (List.getElem?_eq_some_iff.mp hw).1
        have hwl := sumS_len ws
        refine ⟨rfl, _, rfl, _, rfl, w, rfl, line_of (by omega), _, rfl, by omega, by omega, fun D2 hD2 => ?_⟩
        have hD20 := ne_of_none e2 hD2
        refine lc_it walk_range (fun i H' => Same H2 H' ∧ ∃ us, H' D2 = some (.lst us) ∧ us.length = i ∧ Paired (SgAt K H') us ((List.range i).map fun j => ⟨"x", 7, (j : Nat), ["f"]⟩)) ⟨(Same.refl H2).new hD2, [], upd_same, rfl, .nil⟩ (fun _ _ _ _ => True.intro) ?_ ?_
        · rintro k x H3 H4 hk ⟨S3, us, e3, hu, P3⟩ ⟨rfl, rfl⟩
          have hk' : k < w.length := by omega
          refine ⟨rfl, _, rfl, (by show 1 ≤ sizeLine; decide), fun q1 hq1 => ?_⟩
          generalize hZ : upd _ q1 _ = H5
          have e5 := at_of3 hZ
          have S5 := same_of3 hZ hq1
          clear hZ
          refine ⟨(by show 4 ≤ sizeLine; decide), fun q2 hq2 => ?_⟩
          generalize hZ : upd _ q2 _ = H6
          have e6 := at_of3 hZ
          have S6 := same_of3 hZ hq2
          clear hZ
          have hDD := S6 _ _ (S5 _ _ e3)
          refine ⟨us, hDD, by rw [hu, ss]; omega, ((S3.trans S5).trans S6).upd hD2, us ++ [.ref q2], upd_same, by simp [hu], ?_⟩
          rw [List.range_succ, List.map_append]
          refine pSnoc ?_ (L2.Paired.mapP P3 fun _ _ g => g.stay ((S5.trans S6).stay.updL hDD))
          have e5' := S6 _ _ e5
          have e6' : (upd H6 D2 (.lst (us ++ [.ref q2]))) q2 = some (.tup [.str "x", .int 7, .int (k : Nat), .ref q1]) := by
            rw [upd_ne (ne_of e6 hDD (by intro z; cases z)), e6]
            show some (HO.tup [V.str "x", V.int 7, V.int ((0 : Int) + (k : Nat)), V.ref q1]) = _
            rw [Int.zero_add]
          exact ⟨q2, q1, rfl, SqT.of e6', SqT.of (by rw [upd_ne (ne_of e5' hDD (by intro z; cases z))]; exact e5')⟩
        · rintro H3 ⟨S3, us, e3, hu, P3⟩
          refine .inl ⟨D2, us, rfl, SqL.of e3, fun sa hsa => ?_⟩
          generalize hZ : upd _ sa _ = H4
          have e4 := at_of3 hZ
          have S4 := same_of3 hZ hsa
          clear hZ
          refine ⟨(by show 1 ≤ sizeLine; decide), fun fa hfa => ?_⟩
          generalize hZ : upd _ fa _ = H5
          have e5 := at_of3 hZ
          have S5 := same_of3 hZ hfa
          clear hZ
          intro x dx hx1 hdx hxd
          refine ⟨x, dx, _, _, _, rfl, upd_same, rfl, ?_⟩
          rw [upd_upd]
          have S6 : ∀ {o1 o2 : HO}, Same H5 (upd (upd H5 dx o1) x o2) := fun {o1 o2} => ((Same.refl H5).new hdx).new (by rw [upd_ne hxd.symm]; exact hx1)
          have S25 := (S3.trans S4).trans S5
          have e7 : ∀ {o1 o2 : HO}, (upd (upd H5 dx o1) x o2) D = some (.lst vs) := fun {o1 o2} => S6 _ _ (S25 _ _ e2)
          have nx : x ≠ D := (ne_of_none (S25 _ _ e2) hx1).symm
          have st : ∀ {o1 o2 o3 : HO}, Stay H5 (upd (upd (upd H5 dx o1) x o2) D o3) := fun {o1 o2 o3} => S6.stay.updL e7
          refine ⟨vs, e7, by rw [hvl, ss]; omega, ((S2.trans S25).trans S6).upd hD, vs ++ [.ref x], ps ++ [⟨w, (List.range (w.length : Int).toNat).map fun j => ⟨"x", 7, (j : Nat), ["f"]⟩, ["f"]⟩], upd_same, ?_, ?_, by simp [hvl]⟩
          · refine pSnoc ⟨x, dx, sa, fa, rfl, upd_old nx upd_same, ⟨us, SqT.of (st _ _ (S5 _ _ e4) rfl), ?_⟩, SqT.of (st _ _ e5 rfl)⟩ (pcs_stay P2 (S25.stay.trans st))
            exact L2.Paired.mapP P3 fun _ _ g => g.stay ((S4.trans S5).stay.trans st)
          · have ht2 : (ws.map cl)[i]? = some (cl w) := by rw [List.getElem?_map, hw]; rfl
            rw [take_more ht2, ← hv]; unfold texts; rw [List.map_append]; rfl
      · rintro H2 ⟨S2, vs, ps, e2, P2, hv, hvl⟩
        rw [List.length_map] at hv
        have : (ws.map cl).take ws.length = ws.map cl := List.take_of_length_le (by rw [List.length_map]; exact Nat.le_refl _)
        rw [this] at hv
        exact fin H2 D vs ps (S1.trans S2) e2 P2 hv
theorem cal__law_right {P : Program} {w : World} {K : PySem.W.Frag} {mg : Str → Option Value} {base : Heap} (T : Top w K mg) : Callee P w K mg base CX0 5 "_law_right" (sp__law_right K) [] := by
  obtain ⟨fd, F, S⟩ := ok__law_right (P := P) T
  exact ⟨fd, _, [], S base, T.g__law_right, F.kp, F.bindsN (fun _ _ _ _ _ _ us hl => match us, hl with | [_, _], _ => rfl), .nil⟩

/-! ### the law -/
def sp_law (K : PySem.W.Frag) : Sp := fun vs H Q _ => ∃ (a : Addr) (ns : List Int), vs = [.ref a] ∧ SqL K H a (ns.map V.int) ∧ ns.length ≤ 63 ∧ ∀ H', Q (.bl true) H'
theorem law_pre {K : PySem.W.Frag} {H : Hp} {a : Addr} {ns : List Int} (hl : ns.length ≤ 63) (hO : Only H) (hS : SqL K H a (ns.map V.int)) : sp_law K [.ref a] H (fun v _ => v = .bl true) fun _ _ _ => False :=
  ⟨a, ns, rfl, hS, hl, fun _ => rfl⟩
theorem cal_written_0_pieces {P : Program} {w : World} {K : PySem.W.Frag} {mg : Str → Option Value} {base : Heap} (T : Top w K mg) : CalleeK P w K mg base CX0 4 "written" (sp_written K) 0 ["pieces"] (fun vs zs => vs ++ (pick 0 zs ++ [])) := by
  obtain ⟨fd, F, S⟩ := ok_written (P := P) T
  have hB : KBn K fd ["pieces"] 0 ["pieces"] _ _ := kbindsA F (fun us ws => us ++ (pick 0 ws ++ [])) (fun r1 rw => Vals.append r1 (Vals.append (vpick 0 rw) (.nil))) (fun _ _ _ _ _ _ us ws h1 h2 => match us, ws, h1, h2 with | [], [_], _, _ => rfl)
  exact ⟨fd, _, _, S base, T.g_written, F.kp, hB⟩
theorem ok_law {P : Program} {w : World} {K : PySem.W.Frag} {mg : Str → Option Value} (T : Top w K mg) : ∃ fd : FuncData, FunD K "law" "law" (defArgs st_law) (defBody st_law) (defScope st_law) (dd_law.dvs K) (dd_law.kws K) (He.ga K "law") fd ∧ ∀ base : Heap, FnOk P w K mg base CX0 6 (He.ga K "law") fd ["_law_script"] (sp_law K) := by
  obtain ⟨fd, F⟩ := T.f_law
  refine ⟨fd, F, fun base => F.ok sc_law (fun vs H Q E h => by obtain ⟨_, _, rfl, _⟩ := h; rfl) (fun cdv A outer s H vs Q E hr h => ⟨_, PSs.nox
 ((pss_cons (ps_for PassesOwn.never rfl (pi_range1 rfl T.n_range (pa_cons (pe_callB (call_max2 rfl) (by rfl) T.n_max (by decide +kernel) (pa_cons pe_int (pa_cons (pe_callB (call_min2 rfl) (by rfl) T.n_min (by decide +kernel) (pa_cons pe_int (pa_cons (pe_callB call_len_seq (by rfl) T.n_len (by decide +kernel) (pa_cons (pv 0) pa_nil)) pa_nil))) pa_nil))) pa_nil)) (pg_name (i := 1) sc_law.nd rfl (Or.inl rfl))
 (pss_cons (ps_set (i := 2) sc_law.nd rfl (Or.inl rfl) (pc (cal__law_bag T) hr (by decide) L2.pass0 rfl (pa_cons (pv 0) (pa_cons (pv 1) pa_nil))))
 (pss_cons (ps_set (i := 3) sc_law.nd rfl (Or.inl rfl) (pe_cmpR op_eq (pc (cal__law_take T) hr (by decide) L2.pass0 rfl (pa_cons (pv 2) (pa_cons pe_int pa_nil))) pe_int (nomark _)))
 (pss_one (ps_if (pt_not (pt_val (pc (cal__law_right T) hr (by decide) L2.pass0 rfl (pa_cons (pc (cal__law_tokens T) hr (by decide) L2.pass0 rfl (pa_cons (pv 2) pa_nil)) (pa_cons (pv 3) pa_nil)))))
 (pss_one (ps_ret pe_bl))
 pss_nil)))))
 (pss_one (ps_ret (pe_and (pe_cmpR op_eq (pc (cal_written T) hr (by decide) L2.pass0 rfl (pa_cons (pe_lst pa_nil) pa_nil)) pe_str (nomark _)) (pe_one (pe_cmpR op_eq (pck0 (cal_written_0_pieces T) hr (by decide) L2.pass0 rfl  (pk_cons (pc (cal_pieces_of_1 T) hr (by decide) L2.pass0 rfl (pa_cons pe_str pa_nil)) pk_nil)) pe_str (nomark _)))))))), ?_⟩)⟩
  obtain ⟨a, ns, rfl, hS, hl, kQ⟩ := h
  refine ⟨_, rfl, a, _, rfl, .inl hS, _, _, rfl, _, _, rfl, ?_⟩
  rw [List.length_map]
  refine ⟨_, rfl, by split <;> split <;> omega, by split <;> split <;> omega, ?_⟩
  refine for_range (fun i σ H' => Same H H' ∧ ∃ (o1 o2 o3 : Option V), σ = [some (.ref a), o1, o2, o3]) ⟨Same.refl H, none, none, none, rfl⟩ ?_ ?_
  · rintro i σ H1 hi ⟨S1, o1, o2, o3, rfl⟩
    refine ⟨_, rfl, _, rfl, a, _, rfl, ⟨ns, S1.seq hS, hl⟩, by omega, fun b n f hb B => ?_⟩
    have hb0 := frees S1 hb
    generalize hZ : upd _ b _ = H2
    have e2 := at_of3 hZ
    have S2 := same_of3 hZ hb
    clear hZ
    have B2 : BagAt H2 b := ⟨n, f, e2, B⟩
    have S02 := S1.trans S2
    refine ⟨_, rfl, b, 2, rfl, B2, by decide, by decide, fun r H3 r0 r1 B3 k3 => ⟨rfl, ?_⟩⟩
    have S03 := S02.keep k3 hb0
    refine ⟨_, rfl, b, rfl, B3, fun ws p H4 hp hT hs e4 B4 k4 => ?_⟩
    have S04 := S03.keep k4 hb0
    refine ⟨_, rfl, p, ws, _, rfl, e4, hT, by omega, fun H5 S5 => ⟨_, rfl, iteF ?_⟩⟩
    exact ⟨S04.trans S5, _, _, _, rfl⟩
  · rintro σ H1 ⟨S1, o1, o2, o3, rfl⟩
    refine ⟨Nat.zero_le _, fun p hp => ?_⟩
    generalize hZ : upd _ p _ = H2
    have e2 := at_of3 hZ
    have S2 := same_of3 hZ hp
    clear hZ
    refine ⟨p, [], [], rfl, SqL.of e2, .nil, (fun _ h => by simp at h), by decide, fun z hz => ⟨rfl, _, rfl, ?_⟩⟩
    have ez : z = "" := str_eq.mpr (by rw [hz]; exact nil_s.symm)
    subst ez
    rw [decide_eq_true rfl]
    have hl : lexOf 0 (cl (" a  +b " : Str)) = .ok [([97], 1), ([43], 4), ([98], 5)] := by
      rw [show cl (" a  +b " : Str) = [32, 97, 32, 32, 43, 98, 32] by decide +kernel]
      kernel_rfl
    refine iteT ⟨_, "", 0, _, rfl, by decide +kernel, hl, fun q us H3 hq e3 P3 S3 => ?_⟩
    refine ⟨rfl, rfl, q, us, _, rfl, SqL.of e3, P3, ?_, ?_, fun y hy => ⟨rfl, ?_⟩⟩
    · intro x hx
      rw [List.map_cons, List.map_cons, List.map_cons, List.map_nil] at hx
      simp only [List.mem_cons, List.not_mem_nil, or_false] at hx
      rcases hx with rfl | rfl | rfl <;> decide +kernel
    · decide +kernel
    · have e : cl y = cl ("a+b" : Str) := by rw [hy]; decide +kernel
      rw [str_eq.mpr e, decide_eq_true rfl]
      exact kQ _
theorem cal_law {P : Program} {w : World} {K : PySem.W.Frag} {mg : Str → Option Value} {base : Heap} (T : Top w K mg) : Callee P w K mg base CX0 6 "law" (sp_law K) [] := by
  obtain ⟨fd, F, S⟩ := ok_law (P := P) T
  exact ⟨fd, _, [], S base, T.g_law, F.kp, F.bindsN (fun _ _ _ _ _ _ us hl => match us, hl with | [_], _ => rfl), .nil⟩


end Z

namespace Z
open PySem PySem.Spec PyProof.Rows L2
/-! ### the head, the end -/
abbrev R : PySem.W.OpenRow := PySem.W.OpenLaw.row PySem.Challenge.rw_bluepaint_k05_written_and_read
abbrev hk : PySem.W.Hook := He.hookX 5 fa fn [] [] exB
def ob (s : PySem.W.SharedT) : He.AlX := He.obsX 5 fa fn [] [] exB (HandSHeadRun.getT s)
theorem ob_eq (s : PySem.W.SharedT) : ob s = hk.obs s.abs := He.obsX_eq (HandSHeadRun.getT_eq s)
def loose : List Str := (["_wall", "__name__", "Unread", "LETTERS", "FIGURES", "PAIRS", "Piece", "word_end", "token_end", "pieces_of", "is_apart", "written", "_law_cell", "_law_bag", "_law_take", "_law_token", "_law_tokens", "_law_parts", "_law_due", "_law_right"] : List Str)
set_option maxHeartbeats 0 in
theorem run (w : World) : HandSHeadRun.RunEq R (PySem.W.view R.prog [22]) hk ob 20000 loose w := by
  intro os
  kernel_rfl
theorem law_fd {w : World} {K : PySem.W.Frag} {mg : Str → Option Value} {P : Program} (T : Top w K mg) : ∃ fd : FuncData, (∀ (s : Shared) (u : Value), BindsTo s fd ⟨[u], []⟩ [("_law_script", u)]) ∧ ∀ base : Heap, FnOk P w K mg base CX0 6 (He.ga K "law") fd ["_law_script"] (sp_law K) := by
  obtain ⟨fd, F, S⟩ := ok_law (P := P) T
  exact ⟨fd, fun s u => FunD.bindsA (ps := ["_law_script"]) F (fun _ _ _ _ _ _ us hl => match us, hl with | [_], _ => rfl) s [u] rfl, S⟩
end Z
open PySem PySem.W PySem.Calls PyProof.Rows
set_option maxRecDepth 100000 in
set_option maxHeartbeats 0 in
theorem PySem.Challenge.cw_bluepaint_k05_written_and_read_holds : PySem.Challenge.rw_bluepaint_k05_written_and_read.Holds := by
  w_on; o_law
  refine HandSHeadRun.head_any (r := OpenLaw.row PySem.Challenge.rw_bluepaint_k05_written_and_read) (q := view (OpenLaw.row PySem.Challenge.rw_bluepaint_k05_written_and_read).prog [22]) (H := Z.hk) (ob := Z.ob) (M := 20000) (loose := Z.loose) (d := HandSHeadRun.topDef (OpenLaw.row PySem.Challenge.rw_bluepaint_k05_written_and_read).prog 22) (kwd := []) Z.ob_eq
    (by kernel_rfl) (fun s => by kernel_rfl) Z.run (by kernel_rfl) (by kernel_rfl) (by kernel_rfl) (by rfl) (by first | assumption | decide +kernel) (by decide +kernel) ⟨rfl, rfl, rfl, rfl, rfl, by decide +kernel⟩ ?hw ?hc
  case hw => w_witness2
  case hc =>
    refine L2.walk_ofE (l := PySem.Challenge.rw_bluepaint_k05_written_and_read) (n := 63) (k := 6) (x := "_law_script") (CX := L2.CX0) rfl (by decide) (by kernel_rfl) ⟨rfl, by decide, by decide⟩ ?F (fun _ _ _ _ z => z)
    intro w mg fa h Y G hmg0
    obtain ⟨K, KX, c⟩ := Y
    have hmg : mg ("law" : PySem.Str) = some (.ref fa) := by
      have e : (HandSHeadRun.topDef (OpenLaw.row PySem.Challenge.rw_bluepaint_k05_written_and_read).prog 22).name = ("law" : PySem.Str) := by kernel_rfl
      rw [← e]
      exact hmg0
    have T : Z.Top w K mg := ⟨h, KX, G, c⟩
    have e := hmg.symm.trans T.g_law
    cases e
    obtain ⟨fd, hb, hF⟩ := Z.law_fd (P := (PySem.Challenge.rw_bluepaint_k05_written_and_read).prog) T
    exact ⟨K, fd, Z.sp_law K, KX, hb, fun H a ns hl hO hS => Z.law_pre hl hO hS, fun base _ _ => hF base⟩
