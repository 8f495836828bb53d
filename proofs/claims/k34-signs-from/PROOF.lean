import PyProof.Rows.All
import Wide.All
import OpenK.AllK
import Wide.FinOn
import HandS.ForMost
import HandS.ForExc
import HandS.Codes
import HandS.Defaults
import HandS.IsInst
import HandS.StrMore
import HandS.Wide
import HandS.MakeKw
import HandS.MakeKwOnly
import HandS.WordsExc
import HandS.WideMore
import HandS.Deep
import HandS.TupAny
import HandS.Style
import HandS.Flow
import HandS.Conv
import HandS.Walk
import HandS.Small
import HandS.Head0
import HandS.Head1
import HandS.Head2
import HandS.HeadEnd
import HandS.HeadHook1
import HandS.HeadHook2
import HandS.HeadHook3
import HandS.HeadHook4
import PyProof.NeKinds
import PyProof.Draws
import PyProof.EnumMake
import HandS.Zip0
import HandS.OwnEq
import HandS.More
import PyProof.CollectIter
import PyProof.WalksMore
import PyProof.StrLawsFirst
import KE.GoesMore
import OpenK.KOps
import KE.KCallOwn
import HandS.HotCalls
import HandS.ExcInit
import HandS.ExcField
import HandS.ExcIs
import HandS.Replace
import KE.KExcIs
import HandS.SetTxt0
import HandS.TupSets
import HandS.Strs
import HandS.DictSub
import PyProof.Rows.Range3
import HandS.FStr
import HandS.RaiseMore
import PyProof.StrLawsRepr
import HandS.Text
import HandS.Dict
import PyProof.Rows.RuleB_pow
import PyProof.Rows.StrItems
import PyProof.StrLawsChain
import PySem.Challenge.RW_bluepaint_k34_signs_from
set_option Elab.async false
set_option linter.all false
set_option maxRecDepth 100000
set_option maxHeartbeats 4000000
namespace Z
open PySem PySem.Spec PyProof.Rows L2 L2H
def tupA (K : PySem.W.Frag) (a : Addr) (vs : List V) : Bool := match K.lookup a with
  | some o => (match o.data with
    | .seq its _ => decide (o.cls = .type "tuple") && (decide (its.size ≤ sizeLine) && He.relAll vs its.toList)
    | _ => false)
  | none => false
def clsIB (K : PySem.W.Frag) (x : Str) : Bool :=
  (PySem.W.plainGet K (He.ga K x) Str.empty && (PySem.W.hasDictIn K (He.ga K x) && (PySem.W.plainOver K (He.ga K x) && He.eqO (PySem.W.findIn K (.ref (He.ga K x)) "__setattr__") (some (some (.builtin "object.__setattr__")))))) &&
  (He.eqO (PySem.W.findIn K (.ref (He.ga K x)) "__class__") (some (some (.builtin "object.__class__"))) && (He.eqO (PySem.W.specialIn K (.builtin "object.__class__") "__get__") (some (some (.builtin "getset_descriptor.__get__"))) &&
  (decide (PySem.W.takesIn K (.builtin "object.__class__") = some true) && (decide (PySem.W.mroIn K (He.ga K x) (.type "object") = some true) &&
  (["NoneType", "bool", "int", "str", "list", "tuple", "dict", "float", "set"].all fun t => decide (PySem.W.kitOne K (.type t) (.ref (He.ga K x)) = some false) && decide (PySem.W.kitOne K (.ref (He.ga K x)) (.type t) = some false))))))
def kcB (K : PySem.W.Frag) (x y : Str) (b : Bool) : Bool := decide (PySem.W.kitOne K (.ref (He.ga K x)) (.ref (He.ga K y)) = some b)
def ownEB (K : PySem.W.Frag) (x : Str) : Bool := He.eqO (PySem.W.findIn K (.ref (He.ga K x)) "__eq__") (some (some (.ref (He.ma K (He.ga K x) "__eq__")))) && (He.eqO (PySem.W.findIn K (.ref (He.ga K x)) "__ne__") (some (some (.builtin "object.__ne__"))) &&
  (PySem.W.isFn K (.ref (He.ma K (He.ga K x) "__eq__")) && decide (PySem.W.mroIn K (He.ga K x) (.type "object") = some true)))
def exkB (K : PySem.W.Frag) (x : Str) : Bool := xfB K (He.ga K x) && ((PySem.W.clsIn K (He.ga K x)).isSome && (decide (PySem.W.findIn K (.ref (He.ga K x)) "__class__" = some (some (.builtin "object.__class__"))) && (decide (PySem.W.specialIn K (.builtin "object.__class__") "__get__" = some (some (.builtin "getset_descriptor.__get__"))) && (decide (PySem.W.takesIn K (.builtin "object.__class__") = some true) && decide (PySem.W.mroIn K (He.ga K x) (.type "object") = some true)))))
def oexB (K : PySem.W.Frag) (x : Str) : Bool := (match K.lookup (He.ga K x) with
  | some ⟨.type "type", _, .cls cd, sl⟩ => (match cd.mro, sl.toList with
    | .ref C' :: bm, [_, _, _, _, some (.builtin n), _] => decide (C' = He.ga K x) && (decide (n = "ValueError.__new__") && (!cd.hasDel && (cd.hasDict && PySem.HandSPX.refsVE bm)))
    | _, _ => false)
  | _ => false) && (decide (PySem.W.findIn K (.ref (He.ga K x)) "__setattr__" = some (some (.builtin "object.__setattr__"))) && (decide (PySem.W.subIn K (.ref (He.ga K x)) (.type "BaseException") = some true) && (decide (PySem.W.typeIn K (.ref (He.ga K x)) = some (.type "type")) && PySem.W.keepIn K (.ref (He.ga K x)))))
end Z
namespace Z
open PySem PySem.Spec PyProof.Rows L2
/-! ### the text by places -/
def top (i : Nat) : Stmt := PySem.Challenge.pw_bluepaint_k34_signs_from.main.body.getD i (.Pass ⟨0, 0, 0, 0⟩)
abbrev st__wall : Stmt := top 0
abbrev st_Unread_init : Stmt := inClass (top 2) 0
abbrev st_Piece_init : Stmt := inClass (top 7) 0
abbrev st_Piece_eq : Stmt := inClass (top 7) 1
abbrev st_Piece_len : Stmt := inClass (top 7) 2
abbrev st_Piece_str : Stmt := inClass (top 7) 3
abbrev st_Piece_repr : Stmt := inClass (top 7) 4
abbrev st_Piece_stands : Stmt := inClass (top 7) 5
abbrev st_word_end : Stmt := top 8
abbrev st_token_end : Stmt := top 9
abbrev st_pieces_of : Stmt := top 10
abbrev st_signs_from : Stmt := top 12
abbrev st__law_purse : Stmt := top 14
abbrev st__law_take : Stmt := top 15
abbrev st__law_whole : Stmt := top 16
abbrev st__law_names : Stmt := top 17
abbrev st__law_way : Stmt := top 18
abbrev st__law_led : Stmt := top 19
abbrev st__law_own_piece : Stmt := top 20
abbrev st__law_page : Stmt := top 21
abbrev st__law_asked : Stmt := top 22
abbrev st__law_due : Stmt := top 23
abbrev st_law : Stmt := top 24
def dd__wall : He.DefD := ⟨("_wall", none), "_wall", "_wall", defArgs st__wall, defBody st__wall, defScope st__wall, [], []⟩
def dd_Unread_init : He.DefD := ⟨("Unread", some "__init__"), "__init__", "Unread.__init__", defArgs st_Unread_init, defBody st_Unread_init, defScope st_Unread_init, [], []⟩
def dd_Piece_init : He.DefD := ⟨("Piece", some "__init__"), "__init__", "Piece.__init__", defArgs st_Piece_init, defBody st_Piece_init, defScope st_Piece_init, [.adr (He.dflAt ("Piece", some "__init__") 0)], []⟩
def dd_Piece_eq : He.DefD := ⟨("Piece", some "__eq__"), "__eq__", "Piece.__eq__", defArgs st_Piece_eq, defBody st_Piece_eq, defScope st_Piece_eq, [], []⟩
def dd_Piece_len : He.DefD := ⟨("Piece", some "__len__"), "__len__", "Piece.__len__", defArgs st_Piece_len, defBody st_Piece_len, defScope st_Piece_len, [], []⟩
def dd_Piece_str : He.DefD := ⟨("Piece", some "__str__"), "__str__", "Piece.__str__", defArgs st_Piece_str, defBody st_Piece_str, defScope st_Piece_str, [], []⟩
def dd_Piece_repr : He.DefD := ⟨("Piece", some "__repr__"), "__repr__", "Piece.__repr__", defArgs st_Piece_repr, defBody st_Piece_repr, defScope st_Piece_repr, [], []⟩
def dd_Piece_stands : He.DefD := ⟨("Piece", some "stands"), "stands", "Piece.stands", defArgs st_Piece_stands, defBody st_Piece_stands, defScope st_Piece_stands, [], []⟩
def dd_word_end : He.DefD := ⟨("word_end", none), "word_end", "word_end", defArgs st_word_end, defBody st_word_end, defScope st_word_end, [], []⟩
def dd_token_end : He.DefD := ⟨("token_end", none), "token_end", "token_end", defArgs st_token_end, defBody st_token_end, defScope st_token_end, [], []⟩
def dd_pieces_of : He.DefD := ⟨("pieces_of", none), "pieces_of", "pieces_of", defArgs st_pieces_of, defBody st_pieces_of, defScope st_pieces_of, [], [("page", .str ""), ("number", .int 0)]⟩
def dd_signs_from : He.DefD := ⟨("signs_from", none), "signs_from", "signs_from", defArgs st_signs_from, defBody st_signs_from, defScope st_signs_from, [], []⟩
def dd__law_purse : He.DefD := ⟨("_law_purse", none), "_law_purse", "_law_purse", defArgs st__law_purse, defBody st__law_purse, defScope st__law_purse, [], []⟩
def dd__law_take : He.DefD := ⟨("_law_take", none), "_law_take", "_law_take", defArgs st__law_take, defBody st__law_take, defScope st__law_take, [], []⟩
def dd__law_whole : He.DefD := ⟨("_law_whole", none), "_law_whole", "_law_whole", defArgs st__law_whole, defBody st__law_whole, defScope st__law_whole, [], []⟩
def dd__law_names : He.DefD := ⟨("_law_names", none), "_law_names", "_law_names", defArgs st__law_names, defBody st__law_names, defScope st__law_names, [], []⟩
def dd__law_way : He.DefD := ⟨("_law_way", none), "_law_way", "_law_way", defArgs st__law_way, defBody st__law_way, defScope st__law_way, [], []⟩
def dd__law_led : He.DefD := ⟨("_law_led", none), "_law_led", "_law_led", defArgs st__law_led, defBody st__law_led, defScope st__law_led, [], []⟩
def dd__law_own_piece : He.DefD := ⟨("_law_own_piece", none), "_law_own_piece", "_law_own_piece", defArgs st__law_own_piece, defBody st__law_own_piece, defScope st__law_own_piece, [], []⟩
def dd__law_page : He.DefD := ⟨("_law_page", none), "_law_page", "_law_page", defArgs st__law_page, defBody st__law_page, defScope st__law_page, [], []⟩
def dd__law_asked : He.DefD := ⟨("_law_asked", none), "_law_asked", "_law_asked", defArgs st__law_asked, defBody st__law_asked, defScope st__law_asked, [], []⟩
def dd__law_due : He.DefD := ⟨("_law_due", none), "_law_due", "_law_due", defArgs st__law_due, defBody st__law_due, defScope st__law_due, [], []⟩
def dd_law : He.DefD := ⟨("law", none), "law", "law", defArgs st_law, defBody st_law, defScope st_law, [], []⟩
def fn : List He.DefD := [dd__wall, dd_Unread_init, dd_Piece_init, dd_Piece_eq, dd_Piece_len, dd_Piece_str, dd_Piece_repr, dd_Piece_stands, dd_word_end, dd_token_end, dd_pieces_of, dd_signs_from, dd__law_purse, dd__law_take, dd__law_whole, dd__law_names, dd__law_way, dd__law_led, dd__law_own_piece, dd__law_page, dd__law_asked, dd__law_due, dd_law]
def fa : List He.Fa := [.glo "_wall", .glo "Unread", .str "LETTERS" "abcdefghijklmnopqrstuvwxyzABCDEFGHIJKLMNOPQRSTUVWXYZ", .str "FIGURES" "0123456789", .glo "PAIRS", .glo "Piece", .cls "Piece", .mkr "Piece", .meth "Piece" "__init__", .meth "Piece" "__eq__", .meth "Piece" "__len__", .meth "Piece" "__str__", .meth "Piece" "__repr__", .meth "Piece" "stands", .noat "Piece" "text", .noat "Piece" "signs", .noat "Piece" "paint", .glo "word_end", .glo "token_end", .glo "pieces_of", .glo "signs_from", .glo "_law_purse", .glo "_law_take", .glo "_law_whole", .glo "_law_names", .glo "_law_way", .glo "_law_led", .glo "_law_own_piece", .glo "_law_page", .glo "_law_asked", .glo "_law_due", .glo "law", .free "isinstance", .free "len", .free "str", .free "tuple", .free "range", .free "enumerate", .free "abs", .free "int", .free "bool", .free "sorted", .free "set", .free "max", .free "min", .free "list", .free "all", .free "ValueError"]
def exB (K : PySem.W.Frag) : Bool := clsIB K "Piece" && (ownEB K "Piece" && (kcB K "Piece" "Piece" true && (tupA K (He.dflAt ("Piece", some "__init__") 0 K) [] && (He.tupB K "PAIRS" [.str "==", .str "!=", .str "<=", .str ">=", .str "&&", .str "||", .str "->"] && (true)))))
abbrev R : PySem.W.OpenRow := PySem.W.OpenLaw.row PySem.Challenge.rw_bluepaint_k34_signs_from
abbrev hk : PySem.W.Hook := He.hookX 5 fa fn [] [] exB
def ob (s : PySem.W.SharedT) : He.AlX := He.obsX 5 fa fn [] [] exB (HandSHeadRun.getT s)
theorem ob_eq (s : PySem.W.SharedT) : ob s = hk.obs s.abs := He.obsX_eq (HandSHeadRun.getT_eq s)
def loose : List Str := (["_wall", "__name__", "Unread", "LETTERS", "FIGURES", "PAIRS", "Piece", "word_end", "token_end", "pieces_of", "signs_from", "_law_purse", "_law_take", "_law_whole", "_law_names", "_law_way", "_law_led", "_law_own_piece", "_law_page", "_law_asked", "_law_due"] : List Str)
set_option maxHeartbeats 0 in
theorem run (w : World) : HandSHeadRun.RunEq R (PySem.W.view R.prog [24]) hk ob 20000 loose w := by
  intro os
  kernel_rfl
end Z
set_option Elab.async false
set_option linter.all false
set_option maxRecDepth 100000
set_option maxHeartbeats 4000000
/-! my layer over HandS: callees by name, decisions, heaps -/
namespace Z
open PySem PySem.Spec PyProof.Rows L2
/-! ### callees -/
/-- a def of the module, called by places, the trailing defaults dvs -/
def Callee (P : Program) (w : World) (K : PySem.W.Frag) (mg : Str → Option Value) (base : Heap) (CX : CXT) (k : Nat) (x : Str) (sp : Sp) (dvs : List V) : Prop :=
  ∃ (fd : FuncData) (ps : List Str) (ds : List Value), FnOk P w K mg base CX k (He.ga K x) fd ps sp ∧ mg x = some (.ref (He.ga K x)) ∧ PySem.W.keepIn K (.ref (He.ga K x)) = true ∧ Binds K fd ps ds ∧ Vals dvs ds
section
variable {X : Cx} {CX : CXT} {k j : Nat} {x m : Str} {sp : Sp} {dvs : List V} {p pos apos : Pos} {e o : Expr} {es : List Expr} {ta : TE} {t : TA} {E : XK}
theorem pc (c : Callee X.prog X.w X.K X.mg X.base CX k x sp dvs) (hr : Room j X.A) (hk : k ≤ j) (hx : Passes CX X E) (hg : Gl X x) (ha : PA X (e :: es) t)
    (hdb : (x == ("__debug__" : Str)) = false := by decide) (he : starEach (e :: es) X.env = (false, eval e X.env) :: starEach es X.env := by rfl) (hpl : (backTo pos (starEach es X.env)).any (·.1) = false := by rfl) :
    PE X (.Call (.Name x p) (e :: es) [] pos) (tCall sp dvs E t) := by
  obtain ⟨fd, ps, ds, F, hm, kp, b, d⟩ := c
  exact pe_call F (hr.mono hk) hg hm kp b d hx ha hdb he hpl
theorem pc0 (c : Callee X.prog X.w X.K X.mg X.base CX k x sp dvs) (hr : Room j X.A) (hk : k ≤ j) (hx : Passes CX X E) (hg : Gl X x)
    (hdb : (x == ("__debug__" : Str)) = false := by decide) :
    PE X (.Call (.Name x p) [] [] pos) (tCall sp dvs E tNil) := by
  obtain ⟨fd, ps, ds, F, hm, kp, b, d⟩ := c
  exact pe_call0 F (hr.mono hk) hg hm kp b d hx hdb
end
/-! ### constants of the module -/
theorem pe_gs {X : Cx} {x z : Str} {pos : Pos} (h : ∃ t, X.mg x = some (.str z t)) (hg : Gl X x := by rfl) (hd : (x == ("__debug__" : Str)) = false := by decide) : PE X (.Name x pos) (tC (.str z)) :=
  C8.pe_gc hg (by obtain ⟨t, e⟩ := h; exact ⟨_, e, ⟨t, rfl⟩⟩) hd
theorem pe_gi {X : Cx} {x : Str} {z : Int} {pos : Pos} (h : ∃ t, X.mg x = some (.int z t)) (hg : Gl X x := by rfl) (hd : (x == ("__debug__" : Str)) = false := by decide) : PE X (.Name x pos) (tC (.int z)) :=
  C8.pe_gc hg (by obtain ⟨t, e⟩ := h; exact ⟨_, e, ⟨t, rfl⟩⟩) hd
theorem pe_gr {X : Cx} {x : Str} {a : Addr} {pos : Pos} (h : X.mg x = some (.ref a)) (hg : Gl X x := by rfl) (hd : (x == ("__debug__" : Str)) = false := by decide) : PE X (.Name x pos) (tC (.ref a)) :=
  C8.pe_gc hg ⟨_, h, rfl⟩ hd
/-! ### decisions -/
theorem iteD {c A B : Prop} [Decidable c] (h1 : c → A) (h2 : ¬ c → B) : if decide c = true then A else B := by
  by_cases h : c
  · rw [decide_eq_true h]; exact iteT (h1 h)
  · rw [decide_eq_false h]; exact iteF (h2 h)
theorem iteDN {c A B : Prop} [Decidable c] (h1 : ¬ c → A) (h2 : c → B) : if (!decide c) = true then A else B := by
  by_cases h : c
  · rw [decide_eq_true h]; exact iteF (h2 h)
  · rw [decide_eq_false h]; exact iteT (h1 h)
theorem iteB {b : Bool} {A B : Prop} (h1 : b = true → A) (h2 : b = false → B) : if b = true then A else B := by
  cases b with
  | true => exact iteT (h1 rfl)
  | false => exact iteF (h2 rfl)
/-! ### heaps -/
/-- all but what stands at S is as it was -/
def Keep (S : List Addr) (H H' : Hp) : Prop := ∀ b o, H b = some o → b ∉ S → H' b = some o
theorem Keep.refl {S : List Addr} {H : Hp} : Keep S H H := fun _ _ h _ => h
theorem Keep.trans {S : List Addr} {H H1 H2 : Hp} (a : Keep S H H1) (b : Keep S H1 H2) : Keep S H H2 := fun c o h n => b c o (a c o h n) n
theorem Keep.one {a b : Addr} {H H' : Hp} {o : HO} (k : Keep [a] H H') (h : H b = some o) (n : b ≠ a) : H' b = some o := k b o h (by simpa using n)
theorem Keep.upd {a : Addr} {H H1 : Hp} {o : HO} (k : Keep [a] H H1) : Keep [a] H (L2.upd H1 a o) := fun b u h n => by
  have n' : b ≠ a := by simpa using n
  rw [upd_ne n']; exact k b u h n
theorem Keep.new {S : List Addr} {H H1 : Hp} {p : Addr} {o : HO} (k : Keep S H H1) (hp : H1 p = none) : Keep S H (L2.upd H1 p o) := fun b u h n => by
  have e := k b u h n
  rw [upd_ne (ne_of_none e hp)]; exact e
theorem Keep.of {S : List Addr} {H H' : Hp} (s : Same H H') : Keep S H H' := fun b o h _ => s b o h
theorem Keep.same {H H' : Hp} (k : Keep [] H H') : Same H H' := fun b o h => k b o h (by simp)
theorem _root_.L2.Same.new {H H1 : Hp} {p : Addr} {o : HO} (k : Same H H1) (hp : H1 p = none) : Same H (L2.upd H1 p o) := fun b u h => by
  have e := k b u h
  rw [upd_ne (ne_of_none e hp)]; exact e
theorem upd_new {H : Hp} {p a : Addr} {o u : HO} (hp : H p = none) (h : H a = some u) : L2.upd H p o a = some u := by
  rw [upd_ne (ne_of_none h hp)]; exact h
theorem upd_old {H : Hp} {p a : Addr} {o u : HO} (n : a ≠ p) (h : H a = some u) : L2.upd H p o a = some u := by
  rw [upd_ne n]; exact h
end Z
namespace Z
open PySem PySem.Spec PyProof.Rows L2
/-! ### texts as codes -/
abbrev cl (z : Str) : List Nat := z.cps.toList
theorem cl_len (z : Str) : (cl z).length = z.length := Array.length_toList
end Z
namespace Z
open PySem PySem.Spec PyProof.Rows L2
/-! ### texts: s * n, s[::-1] -/
/-- n times the codes -/
def rep (n : Int) (l : List Nat) : List Nat := (List.replicate n.toNat l).flatten
theorem foldl_arr (l : List Nat) : ∀ (n : Nat) (acc : Array Nat), ((List.replicate n l.toArray).foldl (· ++ ·) acc).toList = acc.toList ++ (List.replicate n l).flatten
  | 0, acc => by simp
  | n + 1, acc => by
    rw [List.replicate_succ, List.foldl_cons, foldl_arr l n, List.replicate_succ, List.flatten_cons]
    simp
theorem mul_cl (x : Str) (n : Int) : cl (Txt.mul x n) = rep n (cl x) := by
  unfold Txt.mul rep
  by_cases h1 : n < 1
  · rw [if_pos h1, show n.toNat = 0 by omega]; rfl
  · rw [if_neg h1]
    by_cases h2 : (n == 1 || x.length == 0) = true
    · rw [if_pos h2]
      rcases Bool.or_eq_true_iff.mp h2 with h3 | h3
      · have e : n = 1 := by simpa using h3
        subst e; simp
      · have e : cl x = [] := List.eq_nil_of_length_eq_zero (by rw [cl_len]; simpa using h3)
        rw [e]; simp
    · rw [if_neg h2]
      have q := foldl_arr (cl x) n.toNat #[]
      simp only [cl, Array.toArray_toList] at q ⊢
      rw [q]; rfl
theorem op_mul_str {X : Cx} : OpR X (binaryOp .Mult) (fun x y H Q => ∃ (z : Str) (n : Int), x = .str z ∧ y = .int n ∧ n ≤ 100000 ∧ -100000 ≤ n ∧ z.length ≤ 100000 ∧ z.length * n.toNat ≤ 16777216 ∧ ∀ y : Str, cl y = rep n (cl z) → Q (.str y) H) := by
  intro pins s σ H x y v u Q I rx ry h
  obtain ⟨z, n, rfl, rfl, h1, h2, h3, h4, q⟩ := h
  obtain ⟨t, rfl⟩ := rx
  obtain ⟨t', rfl⟩ := ry
  refine SB.mul ⟨?_, fun a _ => ?_, fun a _ => ?_⟩ fun t' k => ⟨.str (Txt.mul z n), H, I.tok _, ⟨_, rfl⟩, q _ (mul_cl z n)⟩
  · rw [decide_eq_false (by omega), decide_eq_false (by omega)]; rfl
  · have h5 : (100000 : Int) ≤ (2 ^ 63 - 1) / n := by
      refine Int.le_ediv_of_mul_le (by omega) ?_
      omega
    omega
  · unfold PySem.Builtin.Str.tooLong
    first
      | (refine decide_eq_false ?_; rw [sizeLine_eq]; omega)
      | (simp only [sizeLine_eq]; simp; omega)
def tRevS (te : TE) : TE := fun σ H Q => te σ H fun x H1 => ∃ z, x = .str z ∧ z.length ≤ sizeLine ∧ ∀ y : Str, cl y = (cl z).reverse → Q (.str y) H1
theorem rev_codes (z : Str) (c : Array Nat) (hc : c = z.cps) : (((List.range z.length).map fun k => z.length - 1 - k).filterMap (c[·]?)) = (cl z).reverse := by
  subst hc
  have hl := cl_len z
  rw [PyProof.Rows.filterMap_get _ _ fun i hi => by
    obtain ⟨k, hk, rfl⟩ := List.mem_map.mp hi
    have hk' := List.mem_range.mp hk
    show z.length - 1 - k < z.length
    omega]
  rw [List.map_map]
  refine List.ext_getElem? fun i => ?_
  rw [List.getElem?_map]
  by_cases h : i < z.length
  · rw [List.getElem?_range h, List.getElem?_reverse (by omega), hl]
    show some (z.cps.getD (z.length - 1 - i) 0) = (cl z)[z.length - 1 - i]?
    have h2 : z.length - 1 - i < (cl z).length := by omega
    rw [List.getElem?_eq_getElem h2, Array.getD_eq_getD_getElem?, ← Array.getElem?_toList, List.getElem?_eq_getElem h2]
    rfl
  · have e1 : (List.range z.length)[i]? = none := List.getElem?_eq_none (by rw [List.length_range]; omega)
    have e2 : (cl z).reverse[i]? = none := List.getElem?_eq_none (by rw [List.length_reverse]; omega)
    rw [e1, e2]; rfl
theorem pe_revS {X : Cx} {e : Expr} {te : TE} {k : Nat} {p1 p2 p3 pos : Pos} (he : PE X e te) : PE X (.Subscript e (.Slice none none (some (.UnaryOp .USub (.Constant (.int 1) k p1) p2)) p3) pos) (tRevS te) := by
  refine ⟨fun pins s σ H Q I h => ?_⟩
  refine Subscript_ (thn (he.run pins s σ H _ I h) fun v s1 ⟨x, H1, I1, r1, q1⟩ => ?_)
  obtain ⟨z, ex, hz, q⟩ := q1
  subst ex
  obtain ⟨t, rfl⟩ := r1
  have hst : PO X (some (.UnaryOp .USub (.Constant (.int 1) k p1) p2)) (tPart (tUn (rU fun i => .int (-i)) (tC (.int 1)))) := po_some (pe_un un_neg pe_int)
  refine wpAny_Slice (thn (po_none.run pins s1 σ H1 (fun o H2 => o = none ∧ H2 = H1) I1 ⟨rfl, rfl⟩) fun vl s2 ⟨l, H2, I2, pl, el, e2⟩ => ?_)
  subst el e2
  refine thn (po_none.run pins s2 σ H2 (fun o H3 => o = none ∧ H3 = H2) I2 ⟨rfl, rfl⟩) fun vu s3 ⟨u, H3, I3, pu, eu, e3⟩ => ?_
  subst eu e3
  refine thn (hst.run pins s3 σ H3 (fun o H4 => o = some (-1) ∧ H4 = H3) I3 ⟨1, rfl, -1, rfl, rfl, rfl⟩) fun vs s4 ⟨o, H4, I4, ps, eo, e4⟩ => ?_
  subst eo e4
  have I5 : Inv X pins σ H4 { s4 with heap := s4.heap.push { cls := .type "slice", data := .fields #[vl, vu, vs] } } := I4.kept (t' := s4.toks) fun b ob q => Heap.get?_push_of_some _ q
  show wpAny (model X.prog X.w) X.A (subscriptTail e (.Slice none none (some (.UnaryOp .USub (.Constant (.int 1) k p1) p2)) p3) (.str z t) (.ref s4.heap.objs.size)) (EP X pins σ Q) X.xe { s4 with heap := s4.heap.push { cls := .type "slice", data := .fields #[vl, vu, vs] } }
  cases pl
  cases pu
  cases ps with
  | int i tk =>
  refine tail_any (ops := [.str z t, .ref s4.heap.objs.size]) (typeIs_str _ z t) (F.slot_str_getitem.lookup) ?_ (by with_unfolding_all rfl)
  refine wpAny_getItem_str_slice (l := none) (u := none) (st := some (-1, tk)) ⟨_, Heap.get?_push_size _ rfl, rfl, rfl⟩ rfl ?_
  have e : (slicePicked z none none (some (-1, tk))) = (List.range z.length).map fun k => z.length - 1 - k := PyProof.Rows.picked_rev z.length
  have hf : sliceMade z t none none (some (-1, tk)) = Made.str ⟨((slicePicked z none none (some (-1, tk))).filterMap (z.cps[·]?)).toArray⟩ := by
    unfold sliceMade
    rw [if_neg]
    show ¬ (((-1 : Int) == 1 && _) = true)
    simp
  rw [hf, e, rev_codes z _ rfl]
  have hc : cl ⟨(cl z).reverse.toArray⟩ = (cl z).reverse := by simp
  refine ⟨?_, .str _, H4, I5.tok _, ⟨_, rfl⟩, q _ hc⟩
  show ((cl z).reverse.toArray).size ≤ sizeLine
  rw [List.size_toArray, List.length_reverse, cl_len]
  exact hz
/-! ### small things -/
theorem isi_other {K : PySem.W.Frag} {t : String} (T : String) (h : kitB t T = some false) : PySem.W.kitOne K (.type t) (.type T) = some false := kit_ty h
theorem str_eq {a b : Str} : a = b ↔ cl a = cl b := by
  obtain ⟨a⟩ := a; obtain ⟨b⟩ := b
  constructor
  · intro h; rw [h]
  · intro h
    have : a = b := Array.ext' h
    rw [this]
theorem cl_append (a b : Str) : cl (a ++ b) = cl a ++ cl b := Array.toList_append
theorem len_append (a b : Str) : (a ++ b).length = a.length + b.length := by rw [← cl_len, cl_append, List.length_append, cl_len, cl_len]
end Z
namespace Z
open PySem PySem.Spec PyProof.Rows L2
theorem at_of2 {α : Type} {xs : List α} {r : Int} {v : α} (h0 : 0 ≤ r) (h : xs[r.toNat]? = some v) : atI xs r = some v := by
  have q := atI_nat h
  rwa [Int.toNat_of_nonneg h0] at q
end Z
namespace Z
open PySem PySem.Spec PyProof.Rows L2
theorem at_of3 {H H' : Hp} {p : Addr} {o : HO} (h : L2.upd H p o = H') : H' p = some o := by rw [← h]; exact upd_same
theorem same_of3 {H H' : Hp} {p : Addr} {o : HO} (h : L2.upd H p o = H') (hp : H p = none) : Same H H' := by rw [← h]; exact (Same.refl H).new hp
end Z
namespace Z
open PySem PySem.Spec PyProof.Rows L2
theorem take_more {α : Type} : ∀ {l : List α} {i : Nat} {x : α}, l[i]? = some x → l.take (i + 1) = l.take i ++ [x]
  | [], i, x, h => by simp at h
  | a :: l, 0, x, h => by
    have e : a = x := Option.some.inj h
    subst e
    rfl
  | a :: l, i + 1, x, h => by
    have ih := take_more (l := l) (i := i) (x := x) h
    show a :: l.take (i + 1) = a :: l.take i ++ [x]
    rw [ih]
    rfl
/-- what stood at the start stands, where only what came later is written -/
theorem _root_.L2.Same.keep {H0 H H' : Hp} {b : Addr} (s : Same H0 H) (k : Keep [b] H H') (hb : H0 b = none) : Same H0 H' := fun c o h => k.one (s c o h) (ne_of_none h hb)
theorem frees {H H' : Hp} {p : Addr} (s : Same H H') (h : H' p = none) : H p = none := Same.free s h
end Z
namespace Z
open PySem PySem.Spec PyProof.Rows L2
/-! ### makers, methods -/
def Maker (P : Program) (w : World) (K : PySem.W.Frag) (mg : Str → Option Value) (base : Heap) (CX : CXT) (k : Nat) (x : Str) (sp : Sp) (dvs : List V) : Prop :=
  ∃ (f : Addr) (fd : FuncData) (ps : List Str) (ds : List Value), Mk K (He.ga K x) f ∧ FnOk P w K mg base CX k f fd ps sp ∧ mg x = some (.ref (He.ga K x)) ∧ Binds K fd ps ds ∧ Vals dvs ds
def MethC (P : Program) (w : World) (K : PySem.W.Frag) (mg : Str → Option Value) (base : Heap) (CX : CXT) (k : Nat) (c m : Str) (sp : Sp) (dvs : List V) : Prop :=
  ∃ (f : Addr) (fd : FuncData) (ps : List Str) (ds : List Value), Cls K (He.ga K c) ∧ Meth K (He.ga K c) m f ∧ FnOk P w K mg base CX k f fd ps sp ∧ Binds K fd ps ds ∧ Vals dvs ds
section
variable {X : Cx} {CX : CXT} {k j : Nat} {x m c : Str} {sp : Sp} {dvs : List V} {p pos apos : Pos} {e o : Expr} {es : List Expr} {ta : TE} {t : TA} {E : XK}
theorem pmk (h : Maker X.prog X.w X.K X.mg X.base CX k x sp dvs) (hr : Room j X.A) (hk : k + 1 ≤ j) (hx : Passes CX X E) (hg : Gl X x) (ha : PA X (e :: es) t)
    (hdb : (x == ("__debug__" : Str)) = false := by decide) (he : starEach (e :: es) X.env = (false, eval e X.env) :: starEach es X.env := by rfl) (hpl : (backTo pos (starEach es X.env)).any (·.1) = false := by rfl) :
    PE X (.Call (.Name x p) (e :: es) [] pos) (tMake (He.ga X.K x) sp dvs E t) := by
  obtain ⟨f, fd, ps, ds, M, F, hm, b, d⟩ := h
  exact pe_make M F (hr.mono hk) hg hm b d hx ha hdb he hpl
theorem pmk0 (h : Maker X.prog X.w X.K X.mg X.base CX k x sp dvs) (hr : Room j X.A) (hk : k + 1 ≤ j) (hx : Passes CX X E) (hg : Gl X x)
    (hdb : (x == ("__debug__" : Str)) = false := by decide) : PE X (.Call (.Name x p) [] [] pos) (tMake (He.ga X.K x) sp dvs E tNil) := by
  obtain ⟨f, fd, ps, ds, M, F, hm, b, d⟩ := h
  exact pe_make0 M F (hr.mono hk) hg hm b d hx hdb
theorem pmt {pl : Sem Bool} (h : MethC X.prog X.w X.K X.mg X.base CX k c m sp dvs) (hr : Room j X.A) (hk : k ≤ j) (hx : Passes CX X E) (ho : PE X o ta) (ha : PA X (e :: es) t)
    (hst : starEach (e :: es) X.env = (false, eval e X.env) :: starEach es X.env := by rfl) (hpl : (backTo pos (starEach es X.env)).any (·.1) = false := by rfl)
    (ht : eval (.Call (.Attribute o m apos) (e :: es) [] pos) X.env = (do
      let ov ← eval o X.env
      standAt apos.atName
      let (f, first) ← holding [ov] (getMethod ov m pl)
      callWith pos f first (backTo pos (starEach (e :: es) X.env)) (backToKw pos (keywordEach [] X.env))) := by rfl) :
    PE X (.Call (.Attribute o m apos) (e :: es) [] pos) (tMeth (He.ga X.K c) m sp dvs E ta t) := by
  obtain ⟨f, fd, ps, ds, cl, me, F, b, d⟩ := h
  exact pe_meth ho cl me F (hr.mono hk) b d hx ha hst hpl ht
theorem pmt0 {pl : Sem Bool} (h : MethC X.prog X.w X.K X.mg X.base CX k c m sp dvs) (hr : Room j X.A) (hk : k ≤ j) (hx : Passes CX X E) (ho : PE X o ta)
    (ht : eval (.Call (.Attribute o m apos) [] [] pos) X.env = (do
      let ov ← eval o X.env
      standAt apos.atName
      let (f, first) ← holding [ov] (getMethod ov m pl)
      callWith pos f first (backTo pos (starEach [] X.env)) (backToKw pos (keywordEach [] X.env))) := by rfl) :
    PE X (.Call (.Attribute o m apos) [] [] pos) (tMeth (He.ga X.K c) m sp dvs E ta tNil) := by
  obtain ⟨f, fd, ps, ds, cl, me, F, b, d⟩ := h
  exact pe_meth0 ho cl me F (hr.mono hk) b d hx ht
end
/-! ### tuples of the written part, at any address -/
theorem tupA_ok {K : PySem.W.Frag} {a : Addr} {vs : List V} (h : tupA K a vs = true) (H : Hp) : SqT K H a vs := by
  unfold tupA at h
  cases q : K.lookup a with
  | none => rw [q] at h; cases h
  | some o =>
    rw [q] at h
    cases z : o.data with
    | seq its n =>
      simp only [z] at h
      obtain ⟨h1, h2⟩ := He.ba h
      obtain ⟨h3, h4⟩ := He.ba h2
      exact .inr ⟨o, its, n, q, of_decide_eq_true h1, z, of_decide_eq_true h3, He.relAll_ok h4⟩
    | _ => simp only [z] at h; cases h
/-! ### what never changes stays -/
/-- tuples, instances, their dicts -/
def immB : HO → Bool
  | .tup _ => true
  | .ins _ _ _ => true
  | .own _ => true
  | .frz _ (.tup _) => true
  | _ => false
def Stay (H H' : Hp) : Prop := ∀ c o, H c = some o → immB o = true → H' c = some o
theorem Stay.refl {H : Hp} : Stay H H := fun _ _ h _ => h
theorem Stay.trans {H H1 H2 : Hp} (a : Stay H H1) (b : Stay H1 H2) : Stay H H2 := fun c o h i => b c o (a c o h i) i
theorem _root_.L2.Same.stay {H H' : Hp} (s : Same H H') : Stay H H' := fun c o h _ => s c o h
theorem Stay.seqT {K : PySem.W.Frag} {H H' : Hp} {a : Addr} {xs : List V} (e : Stay H H') (h : H a = some (.tup xs)) : H' a = some (.tup xs) := e _ _ h rfl
theorem Keep.stay {H H' : Hp} {b : Addr} {xs : List V} (k : Keep [b] H H') (hb : H b = some (.lst xs)) : Stay H H' := fun c o h i => k.one h (ne_of h hb (by intro z; subst z; cases i))
end Z
namespace Z
open PySem PySem.Spec PyProof.Rows L2
/-! ### calls with keywords -/
/-- one item, as a list -/
def pick {α : Type} (i : Nat) (l : List α) : List α := (l.drop i).take 1
theorem vpick {vs : List V} {us : List Value} (i : Nat) (r : Vals vs us) : Vals (pick i vs) (pick i us) := Vals.take 1 (Vals.drop i r)
/-- a def of the module, called with n places and the keywords ks; gV: its parameters' values in order -/
def CalleeK (P : Program) (w : World) (K : PySem.W.Frag) (mg : Str → Option Value) (base : Heap) (CX : CXT) (k : Nat) (x : Str) (sp : Sp) (n : Nat) (ks : List Str) (gV : List V → List V → List V) : Prop :=
  ∃ (fd : FuncData) (ps : List Str) (g : List Value → List Value → List Value), FnOk P w K mg base CX k (He.ga K x) fd ps sp ∧ mg x = some (.ref (He.ga K x)) ∧ PySem.W.keepIn K (.ref (He.ga K x)) = true ∧ KBn K fd ps n ks g gV
def MakerK (P : Program) (w : World) (K : PySem.W.Frag) (mg : Str → Option Value) (base : Heap) (CX : CXT) (k : Nat) (x : Str) (sp : Sp) (n : Nat) (ks : List Str) (gV : List V → List V → List V) : Prop :=
  ∃ (f : Addr) (fd : FuncData) (ps : List Str) (g : List Value → List Value → List Value), Mk K (He.ga K x) f ∧ FnOk P w K mg base CX k f fd ps sp ∧ mg x = some (.ref (He.ga K x)) ∧ KBn K fd ps (n + 1) ks g gV
section
variable {X : Cx} {CX : CXT} {k j n : Nat} {x : Str} {sp : Sp} {ks : List Str} {gV : List V → List V → List V} {p pos : Pos} {e : Expr} {es : List Expr} {kws : List Keyword} {t tk : TA} {E : XK}
theorem pck (c : CalleeK X.prog X.w X.K X.mg X.base CX k x sp n ks gV) (hr : Room j X.A) (hk : k ≤ j) (hx : Passes CX X E) (hg : Gl X x) (ha : PA X (e :: es) t) (hkw : PK X kws tk)
    (hall : (backToKw pos (keywordEach kws X.env)).all (·.1.isSome) = true := by rfl) (hks : (backToKw pos (keywordEach kws X.env)).filterMap (·.1) = ks := by rfl)
    (hdb : (x == ("__debug__" : Str)) = false := by decide) (he : starEach (e :: es) X.env = (false, eval e X.env) :: starEach es X.env := by rfl)
    (hpl : ((backTo pos (starEach (e :: es) X.env)).any (·.1) || (backToKw pos (keywordEach kws X.env)).any (·.1.isNone)) = false := by rfl) :
    PE X (.Call (.Name x p) (e :: es) kws pos) (tCallN n ks.length sp gV E t tk) := by
  obtain ⟨fd, ps, g, F, hm, kp, hb⟩ := c
  exact pe_callN F (hr.mono hk) hg hm kp hb hx ha hkw hall hks hdb he hpl
theorem pck0 (c : CalleeK X.prog X.w X.K X.mg X.base CX k x sp 0 ks gV) (hr : Room j X.A) (hk : k ≤ j) (hx : Passes CX X E) (hg : Gl X x) (hkw : PK X kws tk)
    (hall : (backToKw pos (keywordEach kws X.env)).all (·.1.isSome) = true := by rfl) (hks : (backToKw pos (keywordEach kws X.env)).filterMap (·.1) = ks := by rfl)
    (hdb : (x == ("__debug__" : Str)) = false := by decide)
    (hpl : ((backTo pos (starEach [] X.env)).any (·.1) || (backToKw pos (keywordEach kws X.env)).any (·.1.isNone)) = false := by rfl) :
    PE X (.Call (.Name x p) [] kws pos) (tCallN 0 ks.length sp gV E tNil tk) := by
  obtain ⟨fd, ps, g, F, hm, kp, hb⟩ := c
  refine ⟨fun pins s σ H Q I h => ?_⟩
  refine wpAny_Call_Name_kw (ld_glob I hg hm ?_ hdb)
  refine PySem.W.callWith_KW0 (h₀ := X.base) I.ok.mod.kin kp hall ?_ hpl
  refine thn (hkw.run pos pins s σ H _ I h) fun ws s2 ⟨zs, H2, I2, rz, l1, l2, q2⟩ => ⟨I2.kIn, ?_⟩
  rw [hks]
  exact run_fnN (us := []) (vs := []) F (hr.mono hk) hb hx I2 .nil rz rfl l2 q2
theorem pmkk (c : MakerK X.prog X.w X.K X.mg X.base CX k x sp n ks gV) (hr : Room j X.A) (hk : k + 1 ≤ j) (hx : Passes CX X E) (hg : Gl X x) (ha : PA X (e :: es) t) (hkw : PK X kws tk)
    (hall : (backToKw pos (keywordEach kws X.env)).all (·.1.isSome) = true := by rfl) (hks : (backToKw pos (keywordEach kws X.env)).filterMap (·.1) = ks := by rfl)
    (hdb : (x == ("__debug__" : Str)) = false := by decide) (he : starEach (e :: es) X.env = (false, eval e X.env) :: starEach es X.env := by rfl)
    (hpl : ((backTo pos (starEach (e :: es) X.env)).any (·.1) || (backToKw pos (keywordEach kws X.env)).any (·.1.isNone)) = false := by rfl) :
    PE X (.Call (.Name x p) (e :: es) kws pos) (tMakeN (He.ga X.K x) n ks.length sp gV E t tk) := by
  obtain ⟨f, fd, ps, g, M, F, hm, hb⟩ := c
  exact pe_makeN M F (hr.mono hk) hg hm hb hx ha hkw hall hks hdb he hpl
theorem pmkk0 (c : MakerK X.prog X.w X.K X.mg X.base CX k x sp 0 ks gV) (hr : Room j X.A) (hk : k + 1 ≤ j) (hx : Passes CX X E) (hg : Gl X x) (hkw : PK X kws tk)
    (hall : (backToKw pos (keywordEach kws X.env)).all (·.1.isSome) = true := by rfl) (hks : (backToKw pos (keywordEach kws X.env)).filterMap (·.1) = ks := by rfl)
    (hdb : (x == ("__debug__" : Str)) = false := by decide)
    (hpl : ((backTo pos (starEach [] X.env)).any (·.1) || (backToKw pos (keywordEach kws X.env)).any (·.1.isNone)) = false := by rfl) :
    PE X (.Call (.Name x p) [] kws pos) (tMakeN (He.ga X.K x) 0 ks.length sp gV E tNil tk) := by
  obtain ⟨f, fd, ps, g, M, F, hm, hb⟩ := c
  exact pe_makeK0 M F (hr.mono hk) hg hm hb hx hkw hall hks hdb hpl
end
/-- no keyword, no default lacks -/
theorem kbind_all {K : PySem.W.Frag} {fd : FuncData} {ps ks : List Str} {n : Nat} (g : {α : Type} → List α → List α → List α) (hrel : ∀ {vs zs : List V} {us ws : List Value}, Vals vs us → Vals zs ws → Vals (g vs zs) (g us ws))
    (h : ∀ us ws : List Value, us.length = n → ws.length = ks.length → bindArgs fd ⟨us, ks.zip ws⟩ = pure (ps.zip (g us ws))) : KBn K fd ps n ks (fun us ws => g us ws) (fun vs zs => g vs zs) :=
  ⟨fun _ us ws _ l1 l2 => .of_eq (h us ws l1 l2), fun a b => hrel a b⟩
theorem kbindsA {K : PySem.W.Frag} {x qual : Str} {params : Arguments} {body : List Stmt} {scope : Scope} {f : Addr} {fd : FuncData} {ps ks : List Str} {n : Nat} (F : FunD K x qual params body scope [] [] f fd)
    (g : {α : Type} → List α → List α → List α) (hrel : ∀ {vs zs : List V} {us ws : List Value}, Vals vs us → Vals zs ws → Vals (g vs zs) (g us ws))
    (h : ∀ (kV doc pm : Value) (an : Option Addr) (cdv ct : Value) (us ws : List Value), us.length = n → ws.length = ks.length → bindArgs (PySem.W.fnOf x qual params body scope .none kV doc pm an cdv ct) ⟨us, ks.zip ws⟩ = pure (ps.zip (g us ws))) : KBn K fd ps n ks (fun us ws => g us ws) (fun vs zs => g vs zs) := by
  obtain ⟨oc, od, dV, kV, doc, pm, an, cdv, ct, osl, rfl, lk, hcd, hD, hK⟩ := F.ex
  rcases hD with ⟨_, rfl⟩ | ⟨e, _⟩
  · exact kbind_all g hrel fun us ws l1 l2 => h kV doc pm an cdv ct us ws l1 l2
  · exact absurd rfl e
end Z
namespace Z
open PySem PySem.Spec PyProof.Rows L2
/-! ### isinstance and own classes -/
structure ClsI (K : PySem.W.Frag) (C : Addr) : Prop where
  cls : Cls K C
  ha : PySem.W.findIn K (.ref C) "__class__" = some (some (.builtin "object.__class__"))
  hn : PySem.W.specialIn K (.builtin "object.__class__") "__get__" = some (some (.builtin "getset_descriptor.__get__"))
  htk : PySem.W.takesIn K (.builtin "object.__class__") = some true
  hm : PySem.W.mroIn K C (.type "object") = some true
  ty : ∀ t ∈ ["NoneType", "bool", "int", "str", "list", "tuple", "dict", "float", "set"], PySem.W.kitOne K (.type t) (.ref C) = some false ∧ PySem.W.kitOne K (.ref C) (.type t) = some false
theorem clsIB_ok {K : PySem.W.Frag} {x : Str} (h : clsIB K x = true) : ClsI K (He.ga K x) := by
  obtain ⟨h0, h⟩ := He.ba h
  obtain ⟨a1, a⟩ := He.ba h0
  obtain ⟨a2, a⟩ := He.ba a
  obtain ⟨a3, a4⟩ := He.ba a
  obtain ⟨h1, h⟩ := He.ba h
  obtain ⟨h2, h⟩ := He.ba h
  obtain ⟨h3, h⟩ := He.ba h
  obtain ⟨h4, h5⟩ := He.ba h
  refine ⟨⟨a1, a2, a3, He.eqO_ok a4⟩, He.eqO_ok h1, He.eqO_ok h2, of_decide_eq_true h3, of_decide_eq_true h4, fun t ht => ?_⟩
  obtain ⟨q1, q2⟩ := He.ba (List.all_eq_true.mp h5 t ht)
  exact ⟨of_decide_eq_true q1, of_decide_eq_true q2⟩
theorem ClsI.at {K : PySem.W.Frag} {C : Addr} (c : ClsI K C) {H : Hp} {a dx : Addr} {fs : List (Str × V)} (h : H a = some (.ins C dx fs)) : TyX K H (.ref a) (.ref C) := .base (.ins h c.cls c.ha c.hn c.htk c.hm)
end Z
namespace Z
open PySem PySem.Spec PyProof.Rows L2
/-! ### sizes, single signs -/
theorem ss : sizeLine = 16777216 := sizeLine_eq
theorem one_nl : ("\n" : Str) = ⟨#[10]⟩ := by decide +kernel
theorem one_bl : (" " : Str) = ⟨#[32]⟩ := by decide +kernel
theorem nil_s : cl ("" : Str) = [] := by decide +kernel
theorem V_one {a b : Nat} : decide (V.str ⟨#[a]⟩ = V.str ⟨#[b]⟩) = decide (a = b) := by
  rw [decide_eq_decide, V.str.injEq, str_eq]; simp
theorem ix_s {z : Str} {r : Int} (h0 : 0 ≤ r) (h1 : r < z.length) : ∃ c, atI z.cps.toList r = some c := by
  have h : r.toNat < (cl z).length := by rw [cl_len]; omega
  exact ⟨_, at_of2 h0 (List.getElem?_eq_getElem h)⟩
theorem len1 (c : Nat) : (⟨#[c]⟩ : Str).length = 1 := rfl
theorem at_all {P : V → Prop} {xs : List V} {r : Int} (h0 : 0 ≤ r) (h1 : r < xs.length) (h : ∀ v ∈ xs, P v) : ∃ v, atI xs r = some v ∧ P v := by
  have hl : r.toNat < xs.length := by omega
  exact ⟨_, at_of2 h0 (List.getElem?_eq_getElem hl), h _ (List.getElem_mem hl)⟩
theorem str_len0 : ("" : Str).length = 0 := by decide +kernel
theorem str_len_b : (" " : Str).length = 1 := by decide +kernel
theorem str_len_n : ("\n" : Str).length = 1 := by decide +kernel
theorem str_len_q : ("\"" : Str).length = 1 := by decide +kernel
theorem line_of {n : Nat} (h : n ≤ 16777216) : n ≤ sizeLine := by rw [ss]; exact h
end Z
namespace Z
open PySem PySem.Spec PyProof.Rows L2
theorem putF_nil (f : Str) (v : V) : putF f v [] = [(f, v)] := rfl
theorem putF_ne {f g : Str} (v x : V) (r : List (Str × V)) (h : g ≠ f) : putF f v ((g, x) :: r) = (g, x) :: putF f v r := by
  show (if g = f then _ else _) = _
  rw [if_neg h]
theorem putF_eq (f : Str) (v x : V) (r : List (Str × V)) : putF f v ((f, x) :: r) = (f, v) :: r := by
  show (if f = f then _ else _) = _
  rw [if_pos rfl]
end Z
namespace Z
open PySem PySem.Spec PyProof.Rows L2
/-! ### parts of texts and lists -/
theorem part_nat {α : Type} (l : List α) (i j : Nat) : (l.drop (min i l.length)).take (min j l.length - min i l.length) = (l.drop i).take (j - i) := by
  by_cases h : i ≤ l.length
  · rw [Nat.min_eq_left h]
    by_cases h2 : j ≤ l.length
    · rw [Nat.min_eq_left h2]
    · rw [Nat.min_eq_right (by omega), List.take_of_length_le (by rw [List.length_drop]; omega), List.take_of_length_le (by rw [List.length_drop]; omega)]
  · rw [show l.drop i = [] from List.drop_eq_nil_of_le (by omega), List.drop_eq_nil_of_le (by omega)]
    simp
theorem cut_nat (z : Str) (i j : Nat) : cl (cutS z (some (i : Int)) (some (j : Int))) = ((cl z).drop i).take (j - i) := by
  show (((cl z).drop (HT.sIx z.length 0 (some (i : Int)))).take (HT.sIx z.length z.length (some (j : Int)) - HT.sIx z.length 0 (some (i : Int)))) = _
  rw [HT.sIx_nat, HT.sIx_nat, ← cl_len, part_nat]
theorem cut_to (z : Str) (j : Nat) : cl (cutS z none (some (j : Int))) = (cl z).take j := by
  show (((cl z).drop 0).take (HT.sIx z.length z.length (some (j : Int)) - 0)) = _
  rw [HT.sIx_nat, ← cl_len, List.drop_zero, Nat.sub_zero]
  by_cases h : j ≤ (cl z).length
  · rw [Nat.min_eq_left h]
  · rw [Nat.min_eq_right (by omega), List.take_of_length_le (Nat.le_refl _), List.take_of_length_le (by omega)]
theorem cut_from (z : Str) (i : Nat) : cl (cutS z (some (i : Int)) none) = (cl z).drop i := by
  show (((cl z).drop (HT.sIx z.length 0 (some (i : Int)))).take (z.length - HT.sIx z.length 0 (some (i : Int)))) = _
  rw [HT.sIx_nat, ← cl_len]
  by_cases h : i ≤ (cl z).length
  · rw [Nat.min_eq_left h, List.take_of_length_le (by rw [List.length_drop]; omega)]
  · rw [Nat.min_eq_right (by omega), show (cl z).drop i = [] from List.drop_eq_nil_of_le (by omega), List.drop_eq_nil_of_le (Nat.le_refl _), List.take_nil]
theorem cut_eq {a : Str} {l : List Nat} (h : cl a = l) : a = ⟨l.toArray⟩ := by rw [str_eq, h]
end Z
namespace Z
open PySem PySem.Spec PyProof.Rows L2
theorem Stay.updL {H H1 : Hp} {D : Addr} {xs : List V} {o : HO} (s : Stay H H1) (h : H1 D = some (.lst xs)) : Stay H (L2.upd H1 D o) := fun c u e i => by
  have q := s c u e i
  rw [upd_ne (ne_of q h (by intro z; subst z; cases i))]
  exact q
theorem Stay.new {H H1 : Hp} {D : Addr} {o : HO} (s : Stay H H1) (h : H1 D = none) : Stay H (L2.upd H1 D o) := fun c u e i => by
  have q := s c u e i
  rw [upd_ne (ne_of_none q h)]
  exact q
/-- a list made since H0 is written -/
theorem _root_.L2.Same.upd {H0 H : Hp} {b : Addr} {o : HO} (s : Same H0 H) (hb : H0 b = none) : Same H0 (L2.upd H b o) := s.keep Keep.refl.upd hb
end Z
namespace Z
open PySem PySem.Spec PyProof.Rows L2
theorem sqT_ty {K : PySem.W.Frag} {H : Hp} {a : Addr} {xs : List V} (h : SqT K H a xs) : TyX K H (.ref a) (.type "tuple") := by
  rcases h with (h | ⟨o, h⟩) | ⟨o, its, n, e, c, _⟩
  · exact .base (.tup h)
  · exact .fTuple h
  · exact .kTuple e c
end Z
namespace Z
open PySem PySem.Spec PyProof.Rows L2
theorem V_nil {a : Str} : decide (V.str a = V.str ("" : Str)) = decide (cl a = []) := by
  rw [decide_eq_decide, V.str.injEq, str_eq, nil_s]
theorem V_str {a b : Str} : decide (V.str a = V.str b) = decide (cl a = cl b) := by
  rw [decide_eq_decide, V.str.injEq, str_eq]
end Z
namespace Z
open PySem PySem.Spec PyProof.Rows L2
/-- a statement ends in I; from I the rest goes on -/
theorem seq_cut {a b : TS} {D : Ends} {σ : L2.St} {H : Hp} (I : L2.St → Hp → Prop) (hb : ∀ σ' H', I σ' H' → b D σ' H') (ha : ∀ F : L2.St → Hp → Prop, (∀ σ' H', I σ' H' → F σ' H') → a { D with nx := F } σ H) : tSeq a b D σ H := ha _ hb
theorem V_q {c : Nat} : decide (V.str ⟨#[c]⟩ = V.str ("\"" : Str)) = decide (c = 34) := by rw [show ("\"" : Str) = ⟨#[34]⟩ by decide +kernel, V_one]
theorem V_b {c : Nat} : decide (V.str ⟨#[c]⟩ = V.str (" " : Str)) = decide (c = 32) := by rw [one_bl, V_one]
end Z
namespace Z
open PySem PySem.Spec PyProof.Rows L2
theorem step_asgC {v : V} {i : Nat} {b : TS} {D : Ends} {σ : L2.St} {H : Hp} (h : b D (σ.set i (some v)) H) : tSeq (tAsg (tC v) (gName i)) b D σ H := h
end Z
namespace Z
open PySem PySem.Spec PyProof.Rows L2
theorem Keep.free {H H1 : Hp} {b s : Addr} (k : Keep [b] H H1) (n : b ≠ s) (h : H1 s = none) : H s = none := by
  cases e : H s with
  | none => rfl
  | some o =>
    have := k.one e n.symm
    rw [h] at this; cases this
theorem Keep.same2 {H H1 H2 : Hp} {S : List Addr} (k : Keep S H H1) (s : Same H1 H2) : Keep S H H2 := k.trans (Keep.of s)
end Z
namespace Z
open PySem PySem.Spec PyProof.Rows L2
theorem Keep.mix {S : List Addr} {H H1 H2 : Hp} {f : Addr} (k : Keep S H H1) (k2 : Keep [f] H1 H2) (hf : H f = none) : Keep S H H2 := fun c o e n => k2.one (k c o e n) (ne_of_none e hf)
end Z
namespace Z
open PySem PySem.Spec PyProof.Rows L2
theorem at_last {l : List Nat} {c : Nat} {r : List Nat} (e : l = c :: r) : atI l (-1) = some (l.getLastD 0) := by
  have h : l ≠ [] := by rw [e]; simp
  have q := atI_last (l.dropLast) (l.getLast h)
  rw [List.dropLast_concat_getLast h] at q
  rw [q, List.getLastD_eq_getLast?, List.getLast?_eq_some_getLast h]; rfl
end Z
namespace Z
theorem map_at {α β : Type} {f : α → β} {l : List α} {i : Nat} {v : β} (h : (l.map f)[i]? = some v) : ∃ w, l[i]? = some w ∧ v = f w := by
  rw [List.getElem?_map] at h
  cases q : l[i]? with
  | none => rw [q] at h; cases h
  | some w => rw [q] at h; exact ⟨w, rfl, (Option.some.inj h).symm⟩
end Z
namespace Z
open PySem PySem.Spec PyProof.Rows L2
/-- t + u: some tuple with the items of both -/
theorem catA_of {K : PySem.W.Frag} {H : Hp} {a b : Addr} {xs ys : List V} {Q : VK} (ha : SqT K H a xs) (hb : SqT K H b ys) (hz : xs.length + ys.length ≤ sizeLine) (h : ∀ r H', SqT K H' r (xs ++ ys) → Same H H' → Q (.ref r) H') : rCatA K (.ref a) (.ref b) H Q := by
  refine ⟨a, b, xs, ys, rfl, rfl, ha, hb, hz, fun e => ?_, fun _ e => ?_, fun _ _ p hp => ?_⟩
  · subst e; exact h b H hb (Same.refl H)
  · subst e; exact h a H (by rw [List.append_nil]; exact ha) (Same.refl H)
  · exact h p _ (SqT.of upd_same) ((Same.refl H).new hp)
/-- t[lo:hi]: some tuple with these items -/
theorem slA_of {K : PySem.W.Frag} {H : Hp} {a : Addr} {xs : List V} {lo hi : Option Int} {Q : VK} (ha : SqT K H a xs) (h : ∀ r H', SqT K H' r (cutV xs lo hi) → Same H H' → Q (.ref r) H') : rSlA K (.ref a) lo hi H Q := by
  refine ⟨a, xs, rfl, ha, fun e => ?_, fun _ p hp => ?_⟩
  · refine h a H ?_ (Same.refl H)
    have : cutV xs lo hi = xs := by
      show (xs.drop (HT.sIx xs.length 0 lo)).take (HT.sIx xs.length xs.length hi - HT.sIx xs.length 0 lo) = xs
      rw [e.1, e.2]; simp
    rw [this]; exact ha
  · exact h p _ (SqT.of upd_same) ((Same.refl H).new hp)
end Z

set_option Elab.async false
set_option linter.all false
set_option maxRecDepth 100000
set_option maxHeartbeats 4000000
/-! == and != of data: flat values, lists, tuples, at any depth, any answer -/
namespace Z
open PySem PySem.Spec PyProof.Rows L2
def SeqE (E : V → V → Bool → Prop) (xs ys : List V) (b : Bool) : Prop :=
  ∃ e : Nat → Bool, (∀ j x y, xs[j]? = some x → ys[j]? = some y → E x y (e j)) ∧ b = ((List.range (min xs.length ys.length)).all e && decide (xs.length = ys.length))
def EqT (K : PySem.W.Frag) (H : Hp) (E : V → V → Bool → Prop) (x y : V) (b : Bool) : Prop :=
  (∃ a c xs ys, x = .ref a ∧ y = .ref c ∧ SqL K H a xs ∧ SqL K H c ys ∧ ((xs.length ≠ ys.length ∧ b = false) ∨ SeqE E xs ys b)) ∨
  (∃ a c xs ys, x = .ref a ∧ y = .ref c ∧ SqT K H a xs ∧ SqT K H c ys ∧ SeqE E xs ys b) ∨
  (∃ a c xs ys, x = .ref a ∧ y = .ref c ∧ SqL K H a xs ∧ SqT K H c ys ∧ b = false) ∨
  (∃ a c xs ys, x = .ref a ∧ y = .ref c ∧ SqT K H a xs ∧ SqL K H c ys ∧ b = false) ∨
  (∃ a xs, x = .ref a ∧ (SqL K H a xs ∨ SqT K H a xs) ∧ flatV y = true ∧ b = false) ∨
  (∃ c ys, y = .ref c ∧ (SqL K H c ys ∨ SqT K H c ys) ∧ flatV x = true ∧ b = false)
def EqW (K : PySem.W.Frag) (H : Hp) : Nat → V → V → Bool → Prop
  | 0 => fun x y b => (flatV x = true ∧ flatV y = true ∧ b = eqV x y) ∨ (∃ a, x = .ref a ∧ y = .ref a ∧ b = true)
  | n + 1 => fun x y b => (flatV x = true ∧ flatV y = true ∧ b = eqV x y) ∨ (∃ a, x = .ref a ∧ y = .ref a ∧ b = true) ∨ EqT K H (EqW K H n) x y b
theorem EqW.flat {K : PySem.W.Frag} {H : Hp} {n : Nat} {x y : V} (hx : flatV x = true) (hy : flatV y = true) : EqW K H n x y (eqV x y) := by
  cases n with
  | zero => exact .inl ⟨hx, hy, rfl⟩
  | succ n => exact .inl ⟨hx, hy, rfl⟩
theorem EqW.same {K : PySem.W.Frag} {H : Hp} {n : Nat} {a : Addr} : EqW K H n (.ref a) (.ref a) true := by
  cases n with
  | zero => exact .inr ⟨a, rfl, rfl, rfl⟩
  | succ n => exact .inr (.inl ⟨a, rfl, rfl, rfl⟩)
theorem eqV_self {x : V} (h : flatV x = true) : eqV x x = true := by
  cases x <;> first | rfl | (simp [eqV]; done) | (simp [flatV] at h)
section
variable {X : Cx} {pins : List (Addr × Obj)} {σ : L2.St} {H : Hp} {s : Shared}
theorem rc_flat {A : Around} {x y : V} {v u : Value} (hx : flatV x = true) (hy : flatV y = true) (rx : RelV x v) (ry : RelV y u) : SeqAt.RcAt A s v u (eqV x y) ∧ SeqAt.RcNeAt A s v u (!eqV x y) := by
  cases x with
  | non =>
    cases rx
    cases y with
    | non => cases ry; exact ⟨fun _ _ _ _ h => PySem.EqNone.eq_none_none h, .none_none⟩
    | bl b => cases ry; exact ⟨fun _ _ _ _ h => PySem.EqNone.eq_none_bool h, .none_bool b⟩
    | int j => obtain ⟨t, rfl⟩ := ry; exact ⟨fun _ _ _ _ h => PySem.EqNone.eq_none_int h, .none_int j t⟩
    | str j => obtain ⟨t, rfl⟩ := ry; exact ⟨fun _ _ _ _ h => PySem.EqNone.eq_none_str h, .none_str j t⟩
    | _ => cases hy
  | bl a =>
    cases rx
    cases y with
    | non => cases ry; exact ⟨fun _ _ _ _ h => PySem.EqNone.eq_bool_none h, .bool_none a⟩
    | bl b => cases ry; exact ⟨fun _ _ _ _ h => eq_bool h, .bool_bool a b⟩
    | int j => obtain ⟨t, rfl⟩ := ry; exact ⟨SeqAt.RcAt.bool_int a j t, .bool_int a j t⟩
    | str j => obtain ⟨t, rfl⟩ := ry; exact ⟨fun _ _ _ _ h => PySem.EqMixed.eq_bool_str h, .bool_str a j t⟩
    | _ => cases hy
  | int i =>
    obtain ⟨k, rfl⟩ := rx
    cases y with
    | non => cases ry; exact ⟨fun _ _ _ _ h => PySem.EqNone.eq_int_none h, .int_none i k⟩
    | bl b => cases ry; exact ⟨SeqAt.RcAt.int_bool i k b, .int_bool i k b⟩
    | int j => obtain ⟨t, rfl⟩ := ry; exact ⟨fun _ _ _ _ h => eq_int h, .int_int i k j t⟩
    | str j => obtain ⟨t, rfl⟩ := ry; exact ⟨fun _ _ _ _ h => PySem.EqMixed.eq_int_str h, .int_str i k j t⟩
    | _ => cases hy
  | str i =>
    obtain ⟨k, rfl⟩ := rx
    cases y with
    | non => cases ry; exact ⟨fun _ _ _ _ h => PySem.EqNone.eq_str_none h, .str_none i k⟩
    | bl b => cases ry; exact ⟨fun _ _ _ _ h => PySem.EqMixed.eq_str_bool h, .str_bool i k b⟩
    | int j => obtain ⟨t, rfl⟩ := ry; exact ⟨fun _ _ _ _ h => PySem.EqMixed.eq_str_int h, .str_int i k j t⟩
    | str j => obtain ⟨t, rfl⟩ := ry; exact ⟨fun _ _ _ _ h => eq_str h, .str_str i k j t⟩
    | _ => cases hy
  | _ => cases hx
theorem items_at {A : Around} {E : V → V → Bool → Prop} (ih : ∀ x y b v u, E x y b → RelV x v → RelV y u → SeqAt.EqAt A s v u b) {xs ys : List V} {us ws : List Value} (r1 : Vals xs us) (r2 : Vals ys ws) {e : Nat → Bool}
    (h : ∀ j x y, xs[j]? = some x → ys[j]? = some y → E x y (e j)) : ∀ j (h1 : j < us.toArray.size) (h2 : j < ws.toArray.size), SeqAt.EqAt A s us.toArray[j] ws.toArray[j] (e j) := fun j h1 h2 => by
  have l1 := r1.length
  have l2 := r2.length
  have k1 : j < xs.length := by simpa [l1] using h1
  have k2 : j < ys.length := by simpa [l2] using h2
  have g1 : xs[j]? = some xs[j] := List.getElem?_eq_getElem k1
  have g2 : ys[j]? = some ys[j] := List.getElem?_eq_getElem k2
  obtain ⟨u1, a1, b1⟩ := Vals.get r1 g1
  obtain ⟨u2, a2, b2⟩ := Vals.get r2 g2
  have h1' : j < us.length := by simpa using h1
  have h2' : j < ws.length := by simpa using h2
  have c1 : us.toArray[j] = u1 := by rw [List.getElem?_eq_getElem h1'] at a1; simpa using a1
  have c2 : ws.toArray[j] = u2 := by rw [List.getElem?_eq_getElem h2'] at a2; simpa using a2
  rw [c1, c2]
  exact ih _ _ _ _ _ (h j _ _ g1 g2) b1 b2
theorem isT {h : Heap} {a : Addr} {its : Array Value} (t : IsTup h a its) : h.IsTuple a its := t
theorem eqT_rc (I : Inv X pins σ H s) {A : Around} {E : V → V → Bool → Prop} (hu : A.units < cLine) (ih : ∀ x y b v u, E x y b → RelV x v → RelV y u → SeqAt.EqAt A.in1 s v u b) {x y : V} {b : Bool} {v u : Value}
    (h : EqT X.K H E x y b) (rx : RelV x v) (ry : RelV y u) : SeqAt.RcAt A s v u b ∧ SeqAt.RcNeAt A s v u (!b) := by
  rcases h with ⟨a, c, xs, ys, rfl, rfl, ha, hc, h⟩ | ⟨a, c, xs, ys, rfl, rfl, ha, hc, e, he, rfl⟩ | ⟨a, c, xs, ys, rfl, rfl, ha, hc, rfl⟩ | ⟨a, c, xs, ys, rfl, rfl, ha, hc, rfl⟩ | ⟨a, xs, rfl, ha, fy, rfl⟩ | ⟨c, ys, rfl, hc, fx, rfl⟩
  · cases (show v = Value.ref a from rx)
    cases (show u = Value.ref c from ry)
    obtain ⟨us, r1, p1, _⟩ := I.list ha
    obtain ⟨ws, r2, p2, _⟩ := I.list hc
    have l1 := r1.length
    have l2 := r2.length
    rcases h with ⟨hl, rfl⟩ | ⟨e, he, rfl⟩
    · have hsz : (us.toArray.size != ws.toArray.size) = true := by
        rw [bne_iff_ne, List.size_toArray, List.size_toArray, ← l1, ← l2]; exact hl
      exact ⟨.lists_lengths p1.isList p2.isList hsz hu, .lists_lengths p1.isList p2.isList hsz hu⟩
    · by_cases hl : xs.length = ys.length
      · have hsz : us.toArray.size = ws.toArray.size := by rw [List.size_toArray, List.size_toArray, ← l1, ← l2]; exact hl
        have q := items_at ih r1 r2 he
        have e1 : (List.range us.toArray.size).all e = ((List.range (min xs.length ys.length)).all e && decide (xs.length = ys.length)) := by
          rw [decide_eq_true hl, Bool.and_true, List.size_toArray, ← l1, Nat.min_eq_left (Nat.le_of_eq hl)]
        rw [← e1]
        exact ⟨.lists p1.isList p2.isList hsz hu q, .lists p1.isList p2.isList hsz hu q⟩
      · have hsz : (us.toArray.size != ws.toArray.size) = true := by
          rw [bne_iff_ne, List.size_toArray, List.size_toArray, ← l1, ← l2]; exact hl
        rw [decide_eq_false hl, Bool.and_false]
        exact ⟨.lists_lengths p1.isList p2.isList hsz hu, .lists_lengths p1.isList p2.isList hsz hu⟩
  · cases (show v = Value.ref a from rx)
    cases (show u = Value.ref c from ry)
    obtain ⟨us, r1, p1, _⟩ := I.tuple ha
    obtain ⟨ws, r2, p2, _⟩ := I.tuple hc
    have l1 := r1.length
    have l2 := r2.length
    have q := items_at ih r1 r2 he
    have e1 : ((List.range (min us.toArray.size ws.toArray.size)).all e && us.toArray.size == ws.toArray.size) = ((List.range (min xs.length ys.length)).all e && decide (xs.length = ys.length)) := by
      rw [List.size_toArray, List.size_toArray, ← l1, ← l2]
      rfl
    rw [← e1]
    exact ⟨.tuples (isT p1) (isT p2) hu q, .tuples (isT p1) (isT p2) hu q⟩
  · cases (show v = Value.ref a from rx)
    cases (show u = Value.ref c from ry)
    obtain ⟨us, r1, p1, _⟩ := I.list ha
    obtain ⟨ws, r2, p2, _⟩ := I.tuple hc
    exact ⟨.list_tuple p1.isList (isT p2) hu, .list_tuple p1.isList (isT p2) hu⟩
  · cases (show v = Value.ref a from rx)
    cases (show u = Value.ref c from ry)
    obtain ⟨us, r1, p1, _⟩ := I.tuple ha
    obtain ⟨ws, r2, p2, _⟩ := I.list hc
    exact ⟨.tuple_list (isT p1) p2.isList hu, .tuple_list (isT p1) p2.isList hu⟩
  · cases (show v = Value.ref a from rx)
    rcases ha with ha | ha
    · obtain ⟨us, r1, p1, _⟩ := I.list ha
      cases y with
      | non => cases ry; exact ⟨.list_none p1.isList hu, .list_none p1.isList hu⟩
      | bl b => cases ry; exact ⟨.list_bool b p1.isList hu, .list_bool b p1.isList hu⟩
      | int j => obtain ⟨t, rfl⟩ := ry; exact ⟨.list_int j t p1.isList hu, .list_int j t p1.isList hu⟩
      | str j => obtain ⟨t, rfl⟩ := ry; exact ⟨.list_str j t p1.isList hu, .list_str j t p1.isList hu⟩
      | _ => cases fy
    · obtain ⟨us, r1, p1, _⟩ := I.tuple ha
      cases y with
      | non => cases ry; exact ⟨.tuple_none (isT p1) hu, .tuple_none (isT p1) hu⟩
      | bl b => cases ry; exact ⟨.tuple_bool b (isT p1) hu, .tuple_bool b (isT p1) hu⟩
      | int j => obtain ⟨t, rfl⟩ := ry; exact ⟨.tuple_int j t (isT p1) hu, .tuple_int j t (isT p1) hu⟩
      | str j => obtain ⟨t, rfl⟩ := ry; exact ⟨.tuple_str j t (isT p1) hu, .tuple_str j t (isT p1) hu⟩
      | _ => cases fy
  · cases (show u = Value.ref c from ry)
    rcases hc with hc | hc
    · obtain ⟨us, r1, p1, _⟩ := I.list hc
      cases x with
      | non => cases rx; exact ⟨.none_list p1.isList hu, .none_list p1.isList hu⟩
      | bl b => cases rx; exact ⟨.bool_list b p1.isList hu, .bool_list b p1.isList hu⟩
      | int j => obtain ⟨t, rfl⟩ := rx; exact ⟨.int_list j t p1.isList hu, .int_list j t p1.isList hu⟩
      | str j => obtain ⟨t, rfl⟩ := rx; exact ⟨.str_list j t p1.isList hu, .str_list j t p1.isList hu⟩
      | _ => cases fx
    · obtain ⟨us, r1, p1, _⟩ := I.tuple hc
      cases x with
      | non => cases rx; exact ⟨.none_tuple (isT p1) hu, .none_tuple (isT p1) hu⟩
      | bl b => cases rx; exact ⟨.bool_tuple b (isT p1) hu, .bool_tuple b (isT p1) hu⟩
      | int j => obtain ⟨t, rfl⟩ := rx; exact ⟨.int_tuple j t (isT p1) hu, .int_tuple j t (isT p1) hu⟩
      | str j => obtain ⟨t, rfl⟩ := rx; exact ⟨.str_tuple j t (isT p1) hu, .str_tuple j t (isT p1) hu⟩
      | _ => cases fx
theorem at_of_rc {A : Around} {x y : V} {b : Bool} {v u : Value} (I : Inv X pins σ H s) (hu : A.units < cLine) {E : V → V → Bool → Prop} (ih : ∀ x y b v u, E x y b → RelV x v → RelV y u → SeqAt.EqAt A.in1 s v u b)
    (h : EqT X.K H E x y b) (hs : ∀ a, ¬ (x = .ref a ∧ y = .ref a)) (rx : RelV x v) (ry : RelV y u) : SeqAt.EqAt A s v u b := by
  have rc := (eqT_rc I hu ih h rx ry).1
  rcases h with ⟨a, c, _, _, rfl, rfl, _⟩ | ⟨a, c, _, _, rfl, rfl, _⟩ | ⟨a, c, _, _, rfl, rfl, _⟩ | ⟨a, c, _, _, rfl, rfl, _⟩ | ⟨a, _, rfl, ha, fy, rfl⟩ | ⟨c, _, rfl, hc, fx, rfl⟩
  · cases (show v = Value.ref a from rx)
    cases (show u = Value.ref c from ry)
    exact .of_refs (fun e => hs a ⟨rfl, by rw [e]⟩) rc
  · cases (show v = Value.ref a from rx)
    cases (show u = Value.ref c from ry)
    exact .of_refs (fun e => hs a ⟨rfl, by rw [e]⟩) rc
  · cases (show v = Value.ref a from rx)
    cases (show u = Value.ref c from ry)
    exact .of_refs (fun e => hs a ⟨rfl, by rw [e]⟩) rc
  · cases (show v = Value.ref a from rx)
    cases (show u = Value.ref c from ry)
    exact .of_refs (fun e => hs a ⟨rfl, by rw [e]⟩) rc
  · cases (show v = Value.ref a from rx)
    rcases ha with ha | ha
    · obtain ⟨us, r1, p1, _⟩ := I.list ha
      cases y with
      | non => cases ry; exact .list_none p1.isList hu
      | bl b => cases ry; exact .list_bool b p1.isList hu
      | int j => obtain ⟨t, rfl⟩ := ry; exact .list_int j t p1.isList hu
      | str j => obtain ⟨t, rfl⟩ := ry; exact .list_str j t p1.isList hu
      | _ => cases fy
    · obtain ⟨us, r1, p1, _⟩ := I.tuple ha
      cases y with
      | non => cases ry; exact .tuple_none (isT p1) hu
      | bl b => cases ry; exact .tuple_bool b (isT p1) hu
      | int j => obtain ⟨t, rfl⟩ := ry; exact .tuple_int j t (isT p1) hu
      | str j => obtain ⟨t, rfl⟩ := ry; exact .tuple_str j t (isT p1) hu
      | _ => cases fy
  · cases (show u = Value.ref c from ry)
    rcases hc with hc | hc
    · obtain ⟨us, r1, p1, _⟩ := I.list hc
      cases x with
      | non => cases rx; exact .none_list p1.isList hu
      | bl b => cases rx; exact .bool_list b p1.isList hu
      | int j => obtain ⟨t, rfl⟩ := rx; exact .int_list j t p1.isList hu
      | str j => obtain ⟨t, rfl⟩ := rx; exact .str_list j t p1.isList hu
      | _ => cases fx
    · obtain ⟨us, r1, p1, _⟩ := I.tuple hc
      cases x with
      | non => cases rx; exact .none_tuple (isT p1) hu
      | bl b => cases rx; exact .bool_tuple b (isT p1) hu
      | int j => obtain ⟨t, rfl⟩ := rx; exact .int_tuple j t (isT p1) hu
      | str j => obtain ⟨t, rfl⟩ := rx; exact .str_tuple j t (isT p1) hu
      | _ => cases fx
/-- a comparison of an object with itself within data is true: so must b be -/
theorem eqT_self (I : Inv X pins σ H s) {n : Nat} : ∀ {x : V} {b : Bool}, EqW X.K H n x x b → b = true := by
  induction n with
  | zero =>
    intro x b h
    rcases h with ⟨f, _, rfl⟩ | ⟨a, _, _, rfl⟩
    · exact eqV_self f
    · rfl
  | succ n ih =>
    intro x b h
    rcases h with ⟨f, _, rfl⟩ | ⟨a, _, _, rfl⟩ | h
    · exact eqV_self f
    · rfl
    · have seq : ∀ {xs ys : List V}, xs = ys → SeqE (EqW X.K H n) xs ys b → b = true := fun {xs ys} e q => by
        subst e
        obtain ⟨e, he, rfl⟩ := q
        rw [decide_eq_true rfl, Bool.and_true]
        refine List.all_eq_true.mpr fun j hj => ?_
        have hj' := List.mem_range.mp hj
        rw [Nat.min_self] at hj'
        exact ih (he j _ _ (List.getElem?_eq_getElem hj') (List.getElem?_eq_getElem hj'))
      rcases h with ⟨a, c, xs, ys, e1, e2, ha, hc, h⟩ | ⟨a, c, xs, ys, e1, e2, ha, hc, h⟩ | ⟨a, c, xs, ys, e1, e2, ha, hc, h⟩ | ⟨a, c, xs, ys, e1, e2, ha, hc, h⟩ | ⟨a, _, rfl, _, fy, _⟩ | ⟨c, _, rfl, _, fx, _⟩
      · rw [e1] at e2; cases e2
        have e := I.list_inj ha hc
        rcases h with ⟨hl, _⟩ | h
        · exact absurd (congrArg List.length e) hl
        · exact seq e h
      · rw [e1] at e2; cases e2
        exact seq (I.tuple_inj ha hc) h
      · rw [e1] at e2; cases e2
        obtain ⟨us, r1, p1, _⟩ := I.list ha
        obtain ⟨ws, r2, p2, _⟩ := I.tuple hc
        exact absurd rfl (SeqAt.ne_of_list_tuple p1.isList (isT p2))
      · rw [e1] at e2; cases e2
        obtain ⟨us, r1, p1, _⟩ := I.tuple ha
        obtain ⟨ws, r2, p2, _⟩ := I.list hc
        exact absurd rfl (SeqAt.ne_of_list_tuple p2.isList (isT p1))
      · cases fy
      · cases fx
theorem eqW_run (I : Inv X pins σ H s) : ∀ (n : Nat) (A : Around), A.units + n < cLine → ∀ (x y : V) (b : Bool) (v u : Value), EqW X.K H n x y b → RelV x v → RelV y u → SeqAt.EqAt A s v u b
  | 0, A, hu, x, y, b, v, u, h, rx, ry => by
    rcases h with ⟨f1, f2, rfl⟩ | ⟨a, rfl, rfl, rfl⟩
    · exact eqAt_V rx ry f1 f2
    · cases (show v = Value.ref a from rx)
      cases (show u = Value.ref a from ry)
      exact .same _
  | n + 1, A, hu, x, y, b, v, u, h, rx, ry => by
    rcases id h with ⟨f1, f2, rfl⟩ | ⟨a, rfl, rfl, rfl⟩ | h2
    · exact eqAt_V rx ry f1 f2
    · cases (show v = Value.ref a from rx)
      cases (show u = Value.ref a from ry)
      exact .same _
    · by_cases hs : ∃ a, x = .ref a ∧ y = .ref a
      · obtain ⟨a, rfl, rfl⟩ := hs
        cases (show v = Value.ref a from rx)
        cases (show u = Value.ref a from ry)
        rw [eqT_self I h]
        exact .same _
      · exact at_of_rc I (by omega) (eqW_run I n A.in1 (by show A.units + 1 + n < cLine; omega)) h2 (fun a q => hs ⟨a, q⟩) rx ry
/-- the two answers at the top: not an object with itself taken for granted -/
def rEqW (K : PySem.W.Frag) (neg : Bool) : R2 := fun x y H Q => ∃ n b, n ≤ 60 ∧ ((flatV x = true ∧ flatV y = true ∧ b = eqV x y) ∨ EqT K H (EqW K H n) x y b) ∧ Q (.bl (if neg = true then !b else b)) H
theorem op_eqW (hu : X.A.units + 64 < cLine) : OpR X (compareOp .Eq) (rEqW X.K false) := by
  intro pins s σ H x y v u Q I rx ry h
  obtain ⟨n, b, hn, h, q⟩ := h
  have rc : SeqAt.RcAt X.A s v u b := by
    rcases h with ⟨f1, f2, rfl⟩ | h
    · exact (rc_flat f1 f2 rx ry).1
    · exact (eqT_rc I (by omega) (eqW_run I n X.A.in1 (by show X.A.units + 1 + n < cLine; omega)) h rx ry).1
  exact rc _ _ _ _ ⟨.bl b, H, I, rfl, q⟩
theorem op_neW (hu : X.A.units + 64 < cLine) : OpR X (compareOp .NotEq) (rEqW X.K true) := by
  intro pins s σ H x y v u Q I rx ry h
  obtain ⟨n, b, hn, h, q⟩ := h
  have rc : SeqAt.RcNeAt X.A s v u (!b) := by
    rcases h with ⟨f1, f2, rfl⟩ | h
    · exact (rc_flat f1 f2 rx ry).2
    · exact (eqT_rc I (by omega) (eqW_run I n X.A.in1 (by show X.A.units + 1 + n < cLine; omega)) h rx ry).2
  exact rc _ _ _ _ ⟨.bl (!b), H, I, rfl, q⟩
end
end Z
namespace Z
open PySem PySem.Spec PyProof.Rows L2
theorem seqE_self {K : PySem.W.Frag} {H : Hp} {n : Nat} (xs : List V) (h : xs.all flatV = true) : SeqE (EqW K H n) xs xs true :=
  ⟨fun _ => true, fun j x y e1 e2 => by
    rw [e1] at e2; cases e2
    have f := List.all_eq_true.mp h x (List.mem_of_getElem? e1)
    have q := EqW.flat (K := K) (H := H) (n := n) f f
    rwa [eqV_self f] at q, by rw [decide_eq_true rfl, Bool.and_true]; exact (List.all_eq_true.mpr fun _ _ => rfl).symm⟩
end Z

set_option Elab.async false
set_option linter.all false
set_option maxRecDepth 100000
set_option maxHeartbeats 4000000
namespace Z
open PySem PySem.Spec PyProof.Rows L2
/-! ### the same rules, the written part named: for the insides of comprehensions -/
section
variable {Y : Cx} {K : PySem.W.Frag}
theorem pe_fldG {e : Expr} {f : Str} {pos : Pos} {ta : TE} (hK : Y.K = K) (he : PE Y e ta) (hb : attributeBase e f Y.env (eval e Y.env) = eval e Y.env) : PE Y (.Attribute e f pos) (tFld K ta f) := by subst hK; exact pe_fld he hb
theorem ix_listG (hK : Y.K = K) : IxR Y (rIxL K) := by subst hK; exact ix_list
theorem ix_tupG (hK : Y.K = K) : IxR Y (rIxT K) := by subst hK; exact ix_tup
theorem sl_listG (hK : Y.K = K) : SlR Y (rSlL K) := by subst hK; exact sl_list
theorem sl_tupAG (hK : Y.K = K) : SlR Y (rSlA K) := by subst hK; exact sl_tupA
theorem call_isiG (hK : Y.K = K) : CallR Y (.builtin "isinstance") (rIsi K) := by subst hK; exact call_isi
theorem op_in_seqG (hK : Y.K = K) : OpR Y (compareOp .In) (rIn K false) := by subst hK; exact op_in_seq
theorem op_notIn_seqG (hK : Y.K = K) : OpR Y (compareOp .NotIn) (rIn K true) := by subst hK; exact op_notIn_seq
theorem call_len_seqG (hK : Y.K = K) : CallR Y (.builtin "len") (fun xs H Q => ∃ p ys, xs = [.ref p] ∧ (SqL K H p ys ∨ SqT K H p ys) ∧ Q (.int ys.length) H) := by subst hK; exact call_len_seq
theorem call_list_ofG (hK : Y.K = K) : CallR Y (.type "list") (fun xs H Q => ∃ p ys, xs = [.ref p] ∧ (SqL K H p ys ∨ SqT K H p ys) ∧ ∀ l, H l = none → Q (.ref l) (L2.upd H l (.lst ys))) := by subst hK; exact call_list_of
theorem op_catAG (hK : Y.K = K) : OpR Y (binaryOp .Add) (rCatA K) := by subst hK; exact op_catA
theorem op_eqWG (hK : Y.K = K) (hu : Y.A.units + 64 < cLine) : OpR Y (compareOp .Eq) (rEqW K false) := by subst hK; exact op_eqW hu
theorem op_neWG (hK : Y.K = K) (hu : Y.A.units + 64 < cLine) : OpR Y (compareOp .NotEq) (rEqW K true) := by subst hK; exact op_neW hu
theorem pi_listG {tg l : Expr} {tl : TE} (hK : Y.K = K) (hl : PE Y l tl) : PI Y tg l (iList K tl) := by subst hK; exact pi_list hl
theorem pi_tupG {tg l : Expr} {tl : TE} (hK : Y.K = K) (hl : PE Y l tl) : PI Y tg l (iTup K tl) := by subst hK; exact pi_tup hl
theorem pg_tupG {es : List Expr} {k : Nat} {t : TGs} {n : Nat} {pos : Pos} (hK : Y.K = K) (hc : Y.calm = true) (h : PGs Y es t)
    (hn : (assignEach es Y.env).length = n := by rfl) (hst : (assignEach es Y.env).findIdx? (·.1) = none := by rfl) : PG Y (.Tuple es k pos) (gTup K n t) := by subst hK; exact pg_tup hc h hn hst
theorem pe_tupleOfG {a : Expr} {ta : TE} {p pos : Pos} (hK : Y.K = K) (hg : Gl Y "tuple") (hm : Y.mg "tuple" = none) (ha : PE Y a ta) (na : starEach [a] Y.env = (false, eval a Y.env) :: starEach [] Y.env := by rfl) :
    PE Y (.Call (.Name "tuple" p) [a] [] pos) (tThen ta (kTup K)) := by subst hK; exact pe_tupleOf hg hm ha na
theorem pe_joinG {o e : Expr} {to te : TE} {apos pos : Pos} (hK : Y.K = K) (ho : PE Y o to) (he : PE Y e te) (hs : starEach [e] Y.env = [(false, eval e Y.env)] := by rfl) (hbase : attributeBase o "join" Y.env (eval o Y.env) = eval o Y.env := by rfl) (hline : (apos.endLine == pos.line) = true := by rfl) :
    PE Y (.Call (.Attribute o "join" apos) [e] [] pos) (tM1 (fun x xs H Q => ∃ a p, ∃ ys : List Str, x = .str a ∧ xs = [.ref p] ∧ (SqL K H p (ys.map V.str) ∨ SqT K H p (ys.map V.str)) ∧
      (ys.map (·.length)).sum + ys.length * a.length ≤ 16777216 ∧ Q (.str (Txt.join a ys)) H) to te) := by subst hK; exact pe_join ho he hs hbase hline
variable {CX : CXT} {k j n : Nat} {x m c : Str} {sp : Sp} {dvs : List V} {p pos apos : Pos} {e o : Expr} {es : List Expr} {ta : TE} {t tk : TA} {E : XK} {ks : List Str} {gV : List V → List V → List V} {kws : List Keyword}
theorem pmkG (hK : Y.K = K) (h : Maker Y.prog Y.w K Y.mg Y.base CX k x sp dvs) (hr : Room j Y.A) (hk : k + 1 ≤ j) (hx : Passes CX Y E) (hg : Gl Y x) (ha : PA Y (e :: es) t)
    (hdb : (x == ("__debug__" : Str)) = false := by decide) (he : starEach (e :: es) Y.env = (false, eval e Y.env) :: starEach es Y.env := by rfl) (hpl : (backTo pos (starEach es Y.env)).any (·.1) = false := by rfl) :
    PE Y (.Call (.Name x p) (e :: es) [] pos) (tMake (He.ga K x) sp dvs E t) := by subst hK; exact pmk h hr hk hx hg ha hdb he hpl
theorem pmtG {pl : Sem Bool} (hK : Y.K = K) (h : MethC Y.prog Y.w K Y.mg Y.base CX k c m sp dvs) (hr : Room j Y.A) (hk : k ≤ j) (hx : Passes CX Y E) (ho : PE Y o ta) (ha : PA Y (e :: es) t)
    (hst : starEach (e :: es) Y.env = (false, eval e Y.env) :: starEach es Y.env := by rfl) (hpl : (backTo pos (starEach es Y.env)).any (·.1) = false := by rfl)
    (ht : eval (.Call (.Attribute o m apos) (e :: es) [] pos) Y.env = (do
      let ov ← eval o Y.env
      standAt apos.atName
      let (f, first) ← holding [ov] (getMethod ov m pl)
      callWith pos f first (backTo pos (starEach (e :: es) Y.env)) (backToKw pos (keywordEach [] Y.env))) := by rfl) :
    PE Y (.Call (.Attribute o m apos) (e :: es) [] pos) (tMeth (He.ga K c) m sp dvs E ta t) := by subst hK; exact pmt h hr hk hx ho ha hst hpl ht
theorem pmt0G {pl : Sem Bool} (hK : Y.K = K) (h : MethC Y.prog Y.w K Y.mg Y.base CX k c m sp dvs) (hr : Room j Y.A) (hk : k ≤ j) (hx : Passes CX Y E) (ho : PE Y o ta)
    (ht : eval (.Call (.Attribute o m apos) [] [] pos) Y.env = (do
      let ov ← eval o Y.env
      standAt apos.atName
      let (f, first) ← holding [ov] (getMethod ov m pl)
      callWith pos f first (backTo pos (starEach [] Y.env)) (backToKw pos (keywordEach [] Y.env))) := by rfl) :
    PE Y (.Call (.Attribute o m apos) [] [] pos) (tMeth (He.ga K c) m sp dvs E ta tNil) := by subst hK; exact pmt0 h hr hk hx ho ht
end
end Z
namespace Z
open PySem PySem.Spec PyProof.Rows L2
theorem u1 {k : Nat} {A : Around} (h : Room k A) : A.units + 1 < cLine := by have := h.units; omega
end Z

set_option Elab.async false
set_option linter.all false
set_option maxRecDepth 100000
set_option maxHeartbeats 4000000
namespace ZP
open PySem PySem.Spec PyProof.Rows HT L2
theorem noI_tup : typeLookup (.type "tuple") (dunderI "add") = pure none := by rw [typeLookup_type, builtinLookup_eq_fast]; kernel_rfl
section
variable {prog : Program} {w : World} {A : Around} {E : Value → Shared → Prop} {s : Shared}
theorem icat_tup {t b : Addr} {vs ws : List Value} {Q : Value → Shared → Prop} (hT : IsTup s.heap t vs.toArray) (hB : IsTup s.heap b ws.toArray)
    (h0 : vs = [] → Q (.ref b) s) (h1 : vs ≠ [] → ws = [] → Q (.ref t) s) (h2 : vs ≠ [] → ws ≠ [] → Q (.ref s.heap.objs.size) { s with heap := s.heap.push { cls := .type "tuple", data := .seq (vs ++ ws).toArray } })
    (hsz : vs.length + ws.length ≤ sizeLine) : wpAny (model prog w) A (inplaceOp .Add (.ref t) (.ref b)) Q E s := by
  obtain ⟨⟨ca, da, oa, za⟩, g1, g2, na, g3⟩ := id hT
  obtain ⟨⟨cb, db, ob, zb⟩, k1, k2, nb, k3⟩ := id hB
  simp only at g2 g3 k2 k3
  subst g2 g3 k2 k3
  have ee : vs.toArray ++ ws.toArray = (vs ++ ws).toArray := by simp
  refine wpAny_inplaceOp_concat ⟨_, g1, rfl⟩ ⟨_, k1, rfl⟩ noI_tup noFill_tuple_add seq_tuple_add ?_
  by_cases nv : vs = []
  · subst nv
    exact call_meets PySem.F.slot_tuple_add ⟨_, g1, rfl⟩ PySem.F.entry_tuple_add (PySem.F.args_tuple_add_2 _ _) (tuple_addW0 t b ([] : List Value).toArray ws.toArray na nb da db za zb (by simp)) ⟨g1, k1, h0 rfl⟩
  · by_cases nw : ws = []
    · exact call_meets PySem.F.slot_tuple_add ⟨_, g1, rfl⟩ PySem.F.entry_tuple_add (PySem.F.args_tuple_add_2 _ _) (tuple_addW1 t b vs.toArray ws.toArray na nb da db za zb (by simpa using nv) (by simp [nw])) ⟨g1, k1, h1 nv nw⟩
    · refine call_meets PySem.F.slot_tuple_add ⟨_, g1, rfl⟩ PySem.F.entry_tuple_add (PySem.F.args_tuple_add_2 _ _)
        (tuple_addW2 t b vs.toArray ws.toArray na nb da db za zb (by simpa using nv) (by simpa using nw) (by rw [List.size_toArray, List.size_toArray]; exact hsz)) ⟨g1, k1, ?_⟩
      rw [ee]
      exact h2 nv nw
end
end ZP
namespace Z
open PySem PySem.Spec PyProof.Rows L2
theorem iop_catA {X : Cx} : OpR X (inplaceOp .Add) (rCatA X.K) := by
  intro pins s σ H x y v u Q I rx ry h
  obtain ⟨a, b, xs, ys, rfl, rfl, hA, hB, hZ, c0, c1, c2⟩ := h
  cases rx
  cases ry
  obtain ⟨us1, v1, t1, _⟩ := I.tuple hA
  obtain ⟨us2, v2, t2, _⟩ := I.tuple hB
  refine ZP.icat_tup t1 t2 (fun z => ⟨.ref b, H, I, rfl, c0 (v1.nil_iff.mp z)⟩) (fun z1 z => ⟨.ref a, H, I, rfl, c1 (fun w => z1 (v1.nil_iff.mpr w)) (v2.nil_iff.mp z)⟩) (fun z1 z => ?_) (by rw [← v1.length, ← v2.length]; exact hZ)
  refine ⟨.ref s.heap.objs.size, _, I.laid (t' := s.toks) (o := .tup (xs ++ ys)) (fun b ob q => Heap.get?_push_of_some _ q) (Nat.le_refl _) ?_, rfl, c2 (fun w => z1 (v1.nil_iff.mpr w)) (fun w => z (v2.nil_iff.mpr w)) _ (I.hok.fresh (Nat.le_refl _))⟩
  exact ⟨by rw [List.length_append]; exact hZ, _, v1.append v2, IsTup.new _ _⟩
end Z

set_option Elab.async false
set_option linter.all false
set_option maxRecDepth 100000
set_option maxHeartbeats 4000000
/-! ### data without addresses: trees, worlds, cells -/
namespace Z
open PySem PySem.Spec PyProof.Rows L2
/-- a value as a tree -/
inductive D where
  | non | bl (b : Bool) | int (i : Int) | str (l : List Nat) | tup (l : List D) | lst (l : List D) | ins (c : Str) (fs : List (Str × D)) | val (v : V)
/-- a heap, what no tree leans on, what may be written, what is written aside, the cells' addresses -/
structure Wd where
  H : Hp
  ws : List Addr
  wr : List Addr
  pv : List Addr
  As : List (Addr × List Addr)
section
variable (K : PySem.W.Frag) (W : Wd)
mutual
inductive Rep : V → D → Prop
  | non : Rep .non .non
  | bl (b : Bool) : Rep (.bl b) (.bl b)
  | int (i : Int) : Rep (.int i) (.int i)
  | str (z : Str) : Rep (.str z) (.str (cl z))
  | tup (a : Addr) (us : List V) (ds : List D) (h : W.H a = some (.tup us)) (n : a ∉ W.ws) (r : Reps us ds) : Rep (.ref a) (.tup ds)
  | tupK (a : Addr) (us : List V) (ds : List D) (h : ∀ H, SqT K H a us) (r : Reps us ds) : Rep (.ref a) (.tup ds)
  | lst (a : Addr) (us : List V) (ds : List D) (h : W.H a = some (.lst us)) (n : a ∉ W.ws) (r : Reps us ds) : Rep (.ref a) (.lst ds)
  | ins (a dx : Addr) (c : Str) (fs : List (Str × V)) (gs : List (Str × D)) (h : W.H a = some (.ins (He.ga K c) dx fs)) (n : a ∉ W.ws) (r : RepF fs gs) : Rep (.ref a) (.ins c gs)
  | val (v : V) : Rep v (.val v)
inductive Reps : List V → List D → Prop
  | nil : Reps [] []
  | cons (v : V) (d : D) (vs : List V) (ds : List D) (h : Rep v d) (t : Reps vs ds) : Reps (v :: vs) (d :: ds)
inductive RepF : List (Str × V) → List (Str × D) → Prop
  | nil : RepF [] []
  | cons (f : Str) (v : V) (d : D) (vs : List (Str × V)) (ds : List (Str × D)) (h : Rep v d) (t : RepF vs ds) : RepF ((f, v) :: vs) ((f, d) :: ds)
end
end
/-- trees stay -/
def Pers (W W' : Wd) : Prop := ∀ b o, W.H b = some o → b ∉ W.ws → W'.H b = some o ∧ b ∉ W'.ws
section
variable {K : PySem.W.Frag} {W W' W'' : Wd}
mutual
theorem Rep.mono (p : Pers W W') : ∀ {v : V} {d : D}, Rep K W v d → Rep K W' v d
  | _, _, .non => .non
  | _, _, .bl b => .bl b
  | _, _, .int i => .int i
  | _, _, .str z => .str z
  | _, _, .tup a us ds h n r => .tup a us ds (p _ _ h n).1 (p _ _ h n).2 (Reps.mono p r)
  | _, _, .tupK a us ds h r => .tupK a us ds h (Reps.mono p r)
  | _, _, .lst a us ds h n r => .lst a us ds (p _ _ h n).1 (p _ _ h n).2 (Reps.mono p r)
  | _, _, .ins a dx c fs gs h n r => .ins a dx c fs gs (p _ _ h n).1 (p _ _ h n).2 (RepF.mono p r)
  | _, _, .val v => .val v
theorem Reps.mono (p : Pers W W') : ∀ {vs : List V} {ds : List D}, Reps K W vs ds → Reps K W' vs ds
  | _, _, .nil => .nil
  | _, _, .cons v d vs ds h t => .cons v d vs ds (Rep.mono p h) (Reps.mono p t)
theorem RepF.mono (p : Pers W W') : ∀ {vs : List (Str × V)} {ds : List (Str × D)}, RepF K W vs ds → RepF K W' vs ds
  | _, _, .nil => .nil
  | _, _, .cons f v d vs ds h t => .cons f v d vs ds (Rep.mono p h) (RepF.mono p t)
end
theorem Reps.len : ∀ {vs : List V} {ds : List D}, Reps K W vs ds → vs.length = ds.length
  | _, _, .nil => rfl
  | _, _, .cons _ _ _ _ _ t => congrArg (· + 1) (Reps.len t)
theorem Reps.app : ∀ {vs us : List V} {ds es : List D}, Reps K W vs ds → Reps K W us es → Reps K W (vs ++ us) (ds ++ es)
  | _, _, _, _, .nil, q => q
  | _, _, _, _, .cons v d vs ds h t, q => .cons _ _ _ _ h (Reps.app t q)
theorem Reps.one {v : V} {d : D} (h : Rep K W v d) : Reps K W [v] [d] := .cons _ _ _ _ h .nil
theorem Reps.take : ∀ {vs : List V} {ds : List D} (n : Nat), Reps K W vs ds → Reps K W (vs.take n) (ds.take n)
  | _, _, 0, _ => by rw [List.take_zero, List.take_zero]; exact .nil
  | _, _, n + 1, .nil => .nil
  | _, _, n + 1, .cons _ _ _ _ h t => .cons _ _ _ _ h (Reps.take n t)
theorem Reps.drop : ∀ {vs : List V} {ds : List D} (n : Nat), Reps K W vs ds → Reps K W (vs.drop n) (ds.drop n)
  | _, _, 0, h => h
  | _, _, n + 1, .nil => .nil
  | _, _, n + 1, .cons _ _ _ _ h t => Reps.drop n t
theorem Reps.at : ∀ {vs : List V} {ds : List D} {i : Nat} {d : D}, Reps K W vs ds → ds[i]? = some d → ∃ v, vs[i]? = some v ∧ Rep K W v d
  | _, _, i, d, .nil, h => by simp at h
  | _, _, 0, d, .cons _ _ _ _ x r, h => ⟨_, rfl, Option.some.inj h ▸ x⟩
  | _, _, i + 1, d, .cons _ _ _ _ x r, h => Reps.at r (i := i) h
theorem Reps.at' : ∀ {vs : List V} {ds : List D} {i : Nat} {v : V}, Reps K W vs ds → vs[i]? = some v → ∃ d, ds[i]? = some d ∧ Rep K W v d
  | _, _, i, d, .nil, h => by simp at h
  | _, _, 0, d, .cons _ _ _ _ x r, h => ⟨_, rfl, Option.some.inj h ▸ x⟩
  | _, _, i + 1, d, .cons _ _ _ _ x r, h => Reps.at' r (i := i) h
theorem Reps.set : ∀ {vs : List V} {ds : List D} {v : V} {d : D} (i : Nat), Reps K W vs ds → Rep K W v d → Reps K W (vs.set i v) (ds.set i d)
  | _, _, _, _, _, .nil, _ => .nil
  | _, _, _, _, 0, .cons _ _ _ _ _ t, h => .cons _ _ _ _ h t
  | _, _, _, _, i + 1, .cons _ _ _ _ x t, h => .cons _ _ _ _ x (Reps.set i t h)
theorem Reps.rev {vs : List V} {ds : List D} (h : Reps K W vs ds) : Reps K W vs.reverse ds.reverse := by
  induction h using Reps.rec (motive_1 := fun _ _ _ => True) (motive_3 := fun _ _ _ => True) with
  | cons v d vs ds h t _ ih => rw [List.reverse_cons, List.reverse_cons]; exact ih.app (.one h)
  | nil => exact .nil
  | _ => trivial
theorem RepF.look {f : Str} : ∀ {vs : List (Str × V)} {ds : List (Str × D)} {d : D}, RepF K W vs ds → ds.lookup f = some d → ∃ v, vs.lookup f = some v ∧ Rep K W v d
  | _, _, d, .nil, h => by simp at h
  | _, _, d, .cons g v e vs ds x t, h => by
    rw [List.lookup_cons] at h
    by_cases q : (f == g) = true
    · rw [q] at h
      cases h
      exact ⟨v, by rw [List.lookup_cons, q], x⟩
    · have q' : (f == g) = false := by simpa using q
      rw [q'] at h
      obtain ⟨u, h1, h2⟩ := RepF.look t h
      exact ⟨u, by rw [List.lookup_cons, q']; exact h1, h2⟩
theorem RepF.lookN {f : Str} : ∀ {vs : List (Str × V)} {ds : List (Str × D)}, RepF K W vs ds → ds.lookup f = none → vs.lookup f = none
  | _, _, .nil, h => rfl
  | _, _, .cons g v e vs ds x t, h => by
    rw [List.lookup_cons] at h ⊢
    cases q : (f == g) with
    | true => rw [q] at h; cases h
    | false => rw [q] at h; exact RepF.lookN t h
theorem Reps.zipF : ∀ {fs : List Str} {vs : List V} {ds : List D}, Reps K W vs ds → RepF K W (fs.zip vs) (fs.zip ds)
  | [], _, _, _ => by simpa using RepF.nil
  | _ :: _, _, _, .nil => by simpa using RepF.nil
  | f :: fs, _, _, .cons v d vs ds h t => .cons f v d _ _ h (Reps.zipF t)
end
/-! ### what a name holds, cells -/
inductive DV where
  | of (d : D) | cel (i : Nat) | bor (l : List D) | scr (l : List D) | sub (i : Nat)
section
variable (K : PySem.W.Frag) (W : Wd)
def RepV : V → DV → Prop
  | v, .of d => Rep K W v d
  | v, .cel i => ∃ a fp, W.As[i]? = some (a, fp) ∧ v = .ref a
  | v, .sub i => ∃ a d, W.As[i]? = some (a, [a, d]) ∧ v = .ref d
  | v, .bor l => ∃ a us, v = .ref a ∧ W.H a = some (.lst us) ∧ a ∉ W.wr ∧ a ∉ W.pv ∧ Reps K W us l
  | v, .scr l => ∃ a us, v = .ref a ∧ ((Rd W.H a (.lst us) ∧ a ∉ W.wr ∧ a ∉ W.pv) ∨ ∀ H, SqL K H a us) ∧ Reps K W us l
inductive RepVs : List V → List DV → Prop
  | nil : RepVs [] []
  | cons (v : V) (x : DV) (vs : List V) (xs : List DV) (h : RepV K W v x) (t : RepVs vs xs) : RepVs (v :: vs) (x :: xs)
end
abbrev CellP := PySem.W.Frag → Wd → Addr → List Addr → Prop
def StableP (P : CellP) : Prop := ∀ K W W' a fp, P K W a fp → Pers W W' → (∀ b ∈ fp, W'.H b = W.H b) → P K W' a fp
/-- a cell: a list of one's own, a list that was handed in to be written, another thing, nothing any more -/
inductive DC where
  | lst (l : List D) | pl (l : List D) | abs (P : CellP) (st : StableP P) | dead | emp (c : Str) | dob (c f : Str) (kvs : List (List Nat × D)) | dct (kvs : List (List Nat × D))
def live : DC → Prop
  | .dead => False
  | _ => True
/-- a dict's pairs, by texts -/
def RepKv (K : PySem.W.Frag) (W : Wd) : List (Key × V) → List (List Nat × D) → Prop := Paired fun p q => (∃ z : Str, p.1 = .inr z ∧ cl z = q.1) ∧ Rep K W p.2 q.2
theorem RepKv.mono {K : PySem.W.Frag} {W W' : Wd} (p : Pers W W') {vs : List (Key × V)} {ds : List (List Nat × D)} (h : RepKv K W vs ds) : RepKv K W' vs ds := L2.Paired.mapP h fun _ _ q => ⟨q.1, Rep.mono p q.2⟩
def CellAt (K : PySem.W.Frag) (W : Wd) (a : Addr) (fp : List Addr) : DC → Prop
  | .lst l => fp = [a] ∧ ∃ us, W.H a = some (.lst us) ∧ Reps K W us l
  | .pl l => fp = [a] ∧ ∃ us, W.H a = some (.lst us) ∧ Reps K W us l
  | .abs P _ => P K W a fp
  | .dead => True
  | .emp c => fp = [a] ∧ ∃ dx, W.H a = some (.ins (He.ga K c) dx [])
  | .dob c f kvs => ∃ d dx vs, fp = [a, d] ∧ d ≠ a ∧ W.H a = some (.ins (He.ga K c) dx [(f, .ref d)]) ∧ W.H d = some (.dK vs) ∧ RepKv K W vs kvs
  | .dct kvs => fp = [a] ∧ ∃ vs, W.H a = some (.dK vs) ∧ RepKv K W vs kvs
/-- from world to world -/
structure Ext (W W' : Wd) : Prop where
  keep : ∀ b o, W.H b = some o → b ∉ W.wr → W'.H b = some o
  there : ∀ b, W.H b ≠ none → W'.H b ≠ none
  wsn : ∀ b ∈ W'.ws, b ∈ W.ws ∨ W.H b = none
  wsk : ∀ b ∈ W.ws, W.H b ≠ none → b ∉ W.wr → b ∈ W'.ws
  wrn : ∀ b ∈ W'.wr, b ∈ W.wr ∨ W.H b = none
  pv : W'.pv = W.pv
  as : ∃ more, W'.As = W.As ++ more
structure Mem (K : PySem.W.Frag) (W : Wd) (C : List DC) : Prop where
  wrws : ∀ b ∈ W.wr, b ∈ W.ws
  pvws : ∀ b ∈ W.pv, b ∈ W.ws
  dis : ∀ b ∈ W.wr, b ∉ W.pv
  dom : ∀ b ∈ W.ws, W.H b ≠ none
  len : C.length = W.As.length
  cell : ∀ (i : Nat) (dc : DC) (a : Addr) (fp : List Addr), C[i]? = some dc → W.As[i]? = some (a, fp) → live dc → CellAt K W a fp dc ∧ ∀ b ∈ fp, b ∈ W.wr
  sep : ∀ (i j : Nat) (dc dc' : DC) (a : Addr) (fp : List Addr) (a' : Addr) (fp' : List Addr), i ≠ j → C[i]? = some dc → live dc → C[j]? = some dc' → live dc' → W.As[i]? = some (a, fp) → W.As[j]? = some (a', fp') → ∀ b ∈ fp, b ∉ fp'
abbrev Sl := List (Option DV)
abbrev Cs := List DC
structure Slo (K : PySem.W.Frag) (W : Wd) (S : Sl) (σ : L2.St) : Prop where
  len : S.length = σ.length
  get : ∀ (i : Nat) (x : DV), S[i]? = some (some x) → ∃ v, σ[i]? = some (some v) ∧ RepV K W v x
/-- what else stands in a world, and in all that come of it -/
class Gd (K : PySem.W.Frag) where
  ok : Wd → Prop
  ext : ∀ {W W' : Wd}, ok W → Ext W W' → ok W'
  pv : ∀ {W : Wd} {b : Addr}, ok W → ok { W with pv := b :: W.pv }
@[reducible] def gd0 (K : PySem.W.Frag) : Gd K := ⟨fun _ => True, fun _ _ => trivial, fun _ => trivial⟩
structure Sta (K : PySem.W.Frag) [Gd K] (W : Wd) (S : Sl) (C : Cs) (σ : L2.St) : Prop where
  m : Mem K W C
  s : Slo K W S σ
  g : Gd.ok K W
section
variable {K : PySem.W.Frag} [Gd K] {W W' W'' : Wd} {S : Sl} {C : Cs} {σ : L2.St}
theorem Ext.refl : Ext W W := ⟨fun _ _ h _ => h, fun _ h => h, fun _ h => .inl h, fun _ h _ _ => h, fun _ h => .inl h, rfl, [], by simp⟩
theorem Ext.back (e : Ext W W') {b : Addr} (h : W'.H b = none) : W.H b = none := by
  cases q : W.H b with
  | none => rfl
  | some o => exact absurd h (e.there b (by rw [q]; simp))
theorem Ext.trans (a : Ext W W') (b : Ext W' W'') : Ext W W'' where
  keep := fun c o h n => by
    have h1 := a.keep c o h n
    refine b.keep c o h1 fun z => ?_
    rcases a.wrn c z with q | q
    · exact n q
    · rw [h] at q; cases q
  there := fun c h => b.there c (a.there c h)
  wsn := fun c h => by
    rcases b.wsn c h with q | q
    · exact a.wsn c q
    · exact .inr (a.back q)
  wsk := fun c h d n => b.wsk c (a.wsk c h d n) (a.there c d) fun q => by
    rcases a.wrn c q with r | r
    · exact n r
    · exact d r
  wrn := fun c h => by
    rcases b.wrn c h with q | q
    · exact a.wrn c q
    · exact .inr (a.back q)
  pv := b.pv.trans a.pv
  as := by
    obtain ⟨m, e⟩ := a.as
    obtain ⟨n, f⟩ := b.as
    exact ⟨m ++ n, by rw [f, e, List.append_assoc]⟩
theorem Ext.pers (e : Ext W W') (h : ∀ b ∈ W.wr, b ∈ W.ws) : Pers W W' := fun b o q n => by
  refine ⟨e.keep b o q fun z => n (h b z), fun z => ?_⟩
  rcases e.wsn b z with r | r
  · exact n r
  · rw [q] at r; cases r
theorem RepV.mono {v : V} {x : DV} (m : Mem K W C) (e : Ext W W') (h : RepV K W v x) : RepV K W' v x := by
  cases x with
  | of d => exact Rep.mono (e.pers m.wrws) h
  | cel i =>
    obtain ⟨a, fp, h1, h2⟩ := h
    obtain ⟨more, ha⟩ := e.as
    refine ⟨a, fp, ?_, h2⟩
    rw [ha, List.getElem?_append_left (List.getElem?_eq_some_iff.mp h1).1]; exact h1
  | sub i =>
    obtain ⟨a, fp, h1, h2⟩ := h
    obtain ⟨more, ha⟩ := e.as
    refine ⟨a, fp, ?_, h2⟩
    rw [ha, List.getElem?_append_left (List.getElem?_eq_some_iff.mp h1).1]; exact h1
  | bor l =>
    obtain ⟨a, us, rfl, h1, h2, h3, h4⟩ := h
    refine ⟨a, us, rfl, e.keep a _ h1 h2, fun z => ?_, by rw [e.pv]; exact h3, Reps.mono (e.pers m.wrws) h4⟩
    rcases e.wrn a z with r | r
    · exact h2 r
    · rw [h1] at r; cases r
  | scr l =>
    obtain ⟨a, us, rfl, h1, h4⟩ := h
    refine ⟨a, us, rfl, ?_, Reps.mono (e.pers m.wrws) h4⟩
    rcases h1 with ⟨h1, h2, h3⟩ | h1
    · refine .inl ⟨?_, fun z => ?_, by rw [e.pv]; exact h3⟩
      · rcases h1 with h1 | ⟨o, h1⟩
        · exact .inl (e.keep a _ h1 h2)
        · exact .inr ⟨o, e.keep a _ h1 h2⟩
      · rcases e.wrn a z with r | r
        · exact h2 r
        · rcases h1 with h1 | ⟨o, h1⟩
          · rw [h1] at r; cases r
          · rw [h1] at r; cases r
    · exact .inr h1
theorem RepVs.mono0 : True := trivial
theorem RepVs.mono (m : Mem K W C) (e : Ext W W') : ∀ {vs : List V} {xs : List DV}, RepVs K W vs xs → RepVs K W' vs xs
  | _, _, .nil => .nil
  | _, _, .cons _ _ _ _ h t => .cons _ _ _ _ (h.mono m e) (RepVs.mono m e t)
theorem RepVs.len : ∀ {vs : List V} {xs : List DV}, RepVs K W vs xs → vs.length = xs.length
  | _, _, .nil => rfl
  | _, _, .cons _ _ _ _ _ t => congrArg (· + 1) (RepVs.len t)
theorem RepVs.app : ∀ {vs us : List V} {xs ys : List DV}, RepVs K W vs xs → RepVs K W us ys → RepVs K W (vs ++ us) (xs ++ ys)
  | _, _, _, _, .nil, q => q
  | _, _, _, _, .cons _ _ _ _ h t, q => .cons _ _ _ _ h (RepVs.app t q)
theorem RepVs.take : ∀ {vs : List V} {xs : List DV} (n : Nat), RepVs K W vs xs → RepVs K W (vs.take n) (xs.take n)
  | _, _, 0, _ => by rw [List.take_zero, List.take_zero]; exact .nil
  | _, _, n + 1, .nil => .nil
  | _, _, n + 1, .cons _ _ _ _ h t => .cons _ _ _ _ h (RepVs.take n t)
theorem RepVs.drop : ∀ {vs : List V} {xs : List DV} (n : Nat), RepVs K W vs xs → RepVs K W (vs.drop n) (xs.drop n)
  | _, _, 0, h => h
  | _, _, n + 1, .nil => .nil
  | _, _, n + 1, .cons _ _ _ _ h t => RepVs.drop n t
theorem RepVs.pick {vs : List V} {xs : List DV} (i : Nat) (h : RepVs K W vs xs) : RepVs K W (pick i vs) (pick i xs) := (h.drop i).take 1
theorem Slo.mono (m : Mem K W C) (e : Ext W W') (h : Slo K W S σ) : Slo K W' S σ := ⟨h.len, fun i x q => by
  obtain ⟨v, h1, h2⟩ := h.get i x q
  exact ⟨v, h1, h2.mono m e⟩⟩
theorem CellAt.pers {a : Addr} {fp : List Addr} {dc : DC} (h : CellAt K W a fp dc) (p : Pers W W') (s : ∀ b ∈ fp, W'.H b = W.H b) : CellAt K W' a fp dc := by
  cases dc with
  | lst l =>
    obtain ⟨e, us, h1, h2⟩ := h
    exact ⟨e, us, by rw [s a (by rw [e]; simp)]; exact h1, Reps.mono p h2⟩
  | pl l =>
    obtain ⟨e, us, h1, h2⟩ := h
    exact ⟨e, us, by rw [s a (by rw [e]; simp)]; exact h1, Reps.mono p h2⟩
  | abs P st => exact st K W W' a fp h p s
  | dead => trivial
  | emp c =>
    obtain ⟨e, dx, h1⟩ := h
    exact ⟨e, dx, by rw [s a (by rw [e]; simp)]; exact h1⟩
  | dob c f kvs =>
    obtain ⟨d, dx, vs, e, n, h1, h2, h3⟩ := h
    exact ⟨d, dx, vs, e, n, by rw [s a (by rw [e]; simp)]; exact h1, by rw [s d (by rw [e]; simp)]; exact h2, h3.mono p⟩
  | dct kvs =>
    obtain ⟨e, vs, h1, h2⟩ := h
    exact ⟨e, vs, by rw [s a (by rw [e]; simp)]; exact h1, h2.mono p⟩
/-- a new thing that is never written -/
abbrev Wd.new (W : Wd) (p : Addr) (o : HO) : Wd := { W with H := L2.upd W.H p o }
theorem Mem.fresh {p : Addr} (m : Mem K W C) (hp : W.H p = none) : p ∉ W.ws ∧ p ∉ W.wr ∧ p ∉ W.pv :=
  ⟨fun z => m.dom p z hp, fun z => m.dom p (m.wrws p z) hp, fun z => m.dom p (m.pvws p z) hp⟩
theorem Ext.new {p : Addr} {o : HO} (hp : W.H p = none) : Ext W (W.new p o) :=
  ⟨fun b u h _ => upd_new hp h, fun b h => by
    show L2.upd W.H p o b ≠ none
    by_cases e : b = p
    · rw [e, upd_same]; simp
    · rw [upd_ne e]; exact h, fun _ h => .inl h, fun _ h _ _ => h, fun _ h => .inl h, rfl, [], by simp⟩
theorem Mem.new {p : Addr} {o : HO} (m : Mem K W C) (hp : W.H p = none) : Mem K (W.new p o) C := by
  refine ⟨m.wrws, m.pvws, m.dis, fun b h => ?_, m.len, fun i dc a fp h1 h2 h3 => ?_, m.sep⟩
  · exact (Ext.new hp).there b (m.dom b h)
  · obtain ⟨q1, q2⟩ := m.cell i dc a fp h1 h2 h3
    exact ⟨q1.pers ((Ext.new hp).pers m.wrws) fun b hb => upd_ne fun e => (m.fresh hp).2.1 (e ▸ q2 b hb), q2⟩
theorem Sta.new {p : Addr} {o : HO} (m : Sta K W S C σ) (hp : W.H p = none) : Sta K (W.new p o) S C σ := ⟨m.m.new hp, m.s.mono m.m (Ext.new hp), Gd.ext m.g (Ext.new hp)⟩
/-- a new cell -/
abbrev Wd.cell (W : Wd) (p : Addr) (o : HO) : Wd := { W with H := L2.upd W.H p o, ws := p :: W.ws, wr := p :: W.wr, As := W.As ++ [(p, [p])] }
theorem Ext.cell {p : Addr} {o : HO} (hp : W.H p = none) : Ext W (W.cell p o) :=
  ⟨(Ext.new hp).keep, (Ext.new hp).there, fun b h => by
    rcases List.mem_cons.mp h with e | e
    · exact .inr (e ▸ hp)
    · exact .inl e, fun b h _ _ => List.mem_cons_of_mem _ h, fun b h => by
    rcases List.mem_cons.mp h with e | e
    · exact .inr (e ▸ hp)
    · exact .inl e, rfl, _, rfl⟩
theorem Mem.newcell {p : Addr} {o : HO} {dc : DC} (m : Mem K W C) (hp : W.H p = none) (hc : CellAt K (W.cell p o) p [p] dc) : Mem K (W.cell p o) (C ++ [dc]) := by
  have ex : Ext W (W.cell p o) := Ext.cell hp
  have old : ∀ i u, (C ++ [dc])[i]? = some u → (i < C.length ∧ C[i]? = some u) ∨ (i = C.length ∧ u = dc) := fun i u h => by
    by_cases q : i < C.length
    · rw [List.getElem?_append_left q] at h; exact .inl ⟨q, h⟩
    · rw [List.getElem?_append_right (by omega)] at h
      have e : i - C.length = 0 := by
        by_cases r : i - C.length = 0
        · exact r
        · rw [List.getElem?_eq_none (by simp; omega)] at h; cases h
      rw [e] at h
      exact .inr ⟨by omega, (Option.some.inj h).symm⟩
  have oldA : ∀ i u, (W.As ++ [(p, [p])])[i]? = some u → i < C.length → W.As[i]? = some u := fun i u h q => by
    rw [List.getElem?_append_left (by rw [← m.len]; exact q)] at h; exact h
  have newA : ∀ u, (W.As ++ [(p, [p])])[C.length]? = some u → u = (p, [p]) := fun u h => by
    rw [m.len, List.getElem?_append_right (Nat.le_refl _), Nat.sub_self] at h
    exact (Option.some.inj h).symm
  have nin : ∀ i a fp dc', C[i]? = some dc' → live dc' → W.As[i]? = some (a, fp) → p ∉ fp := fun i a fp dc' h1 h2 h3 z => (m.fresh hp).2.1 ((m.cell i dc' a fp h1 h3 h2).2 p z)
  refine ⟨fun b h => ?_, fun b h => List.mem_cons_of_mem _ (m.pvws b h), fun b h z => ?_, fun b h => ?_, ?_, fun i u a fp h1 h2 h3 => ?_, fun i j u u' a fp a' fp' hij h1 h2 h3 h4 h5 h6 b hb hb' => ?_⟩
  · rcases List.mem_cons.mp h with e | e
    · rw [e]; exact List.mem_cons_self
    · exact List.mem_cons_of_mem _ (m.wrws b e)
  · rcases List.mem_cons.mp h with e | e
    · exact (m.fresh hp).2.2 (e ▸ z)
    · exact m.dis b e z
  · rcases List.mem_cons.mp h with e | e
    · show L2.upd W.H p o b ≠ none
      rw [e, upd_same]; simp
    · exact ex.there b (m.dom b e)
  · rw [List.length_append, List.length_append, m.len]; rfl
  · rcases old i u h1 with ⟨q, r⟩ | ⟨q, r⟩
    · obtain ⟨q1, q2⟩ := m.cell i u a fp r (oldA i _ h2 q) h3
      exact ⟨q1.pers (ex.pers m.wrws) fun b hb => upd_ne fun e => (m.fresh hp).2.1 (e ▸ q2 b hb), fun b hb => List.mem_cons_of_mem _ (q2 b hb)⟩
    · subst q r
      have e := newA _ h2
      cases e
      exact ⟨hc, fun b hb => by rw [List.mem_singleton] at hb; rw [hb]; exact List.mem_cons_self⟩
  · rcases old i u h1 with ⟨q, r⟩ | ⟨q, r⟩
    · rcases old j u' h3 with ⟨q', r'⟩ | ⟨q', r'⟩
      · exact m.sep i j u u' a fp a' fp' hij r h2 r' h4 (oldA i _ h5 q) (oldA j _ h6 q') b hb hb'
      · subst q'
        have e := newA _ h6
        cases e
        rw [List.mem_singleton] at hb'
        exact nin i a fp u r h2 (oldA i _ h5 q) (hb' ▸ hb)
    · subst q
      have e := newA _ h5
      cases e
      rw [List.mem_singleton] at hb
      rcases old j u' h3 with ⟨q', r'⟩ | ⟨q', r'⟩
      · exact nin j a' fp' u' r' h4 (oldA j _ h6 q') (hb ▸ hb')
      · exact hij q'.symm
theorem Sta.newcell {p : Addr} {o : HO} {dc : DC} (m : Sta K W S C σ) (hp : W.H p = none) (hc : CellAt K (W.cell p o) p [p] dc) : Sta K (W.cell p o) S (C ++ [dc]) σ := ⟨m.m.newcell hp hc, m.s.mono m.m (Ext.cell hp), Gd.ext m.g (Ext.cell hp)⟩
theorem RepV.newcell {p : Addr} {o : HO} (m : Mem K W C) : RepV K (W.cell p o) (.ref p) (.cel C.length) := ⟨p, [p], by
  show (W.As ++ [(p, [p])])[C.length]? = _
  rw [m.len, List.getElem?_append_right (Nat.le_refl _), Nat.sub_self]; rfl, rfl⟩
/-- a new list cell -/
theorem Sta.newlist {p : Addr} {us : List V} {ds : List D} (m : Sta K W S C σ) (hp : W.H p = none) (r : Reps K W us ds) : Sta K (W.cell p (.lst us)) S (C ++ [.lst ds]) σ :=
  m.newcell hp ⟨rfl, us, upd_same, Reps.mono ((Ext.cell hp).pers m.m.wrws) r⟩
/-- a cell is written -/
theorem Ext.write {H' : Hp} {fp : List Addr} (hw : ∀ b ∈ fp, b ∈ W.wr) (k : ∀ b, b ∉ fp → H' b = W.H b) (t : ∀ b ∈ fp, H' b ≠ none) : Ext W { W with H := H' } :=
  ⟨fun b o h n => by show H' b = _; rw [k b fun z => n (hw b z)]; exact h, fun b h => by
    by_cases q : b ∈ fp
    · exact t b q
    · show H' b ≠ none
      rw [k b q]; exact h, fun _ h => .inl h, fun _ h _ _ => h, fun _ h => .inl h, rfl, [], by simp⟩
theorem Mem.write {H' : Hp} {i : Nat} {a : Addr} {fp : List Addr} {dc dc' : DC} (m : Mem K W C) (hc : C[i]? = some dc) (hl : live dc) (ha : W.As[i]? = some (a, fp)) (k : ∀ b, b ∉ fp → H' b = W.H b) (t : ∀ b ∈ fp, H' b ≠ none)
    (hn : CellAt K { W with H := H' } a fp dc') : Mem K { W with H := H' } (C.set i dc') := by
  obtain ⟨q1, q2⟩ := m.cell i dc a fp hc ha hl
  have ex : Ext W { W with H := H' } := Ext.write q2 k t
  have hi : i < C.length := (List.getElem?_eq_some_iff.mp hc).1
  refine ⟨m.wrws, m.pvws, m.dis, fun b h => ex.there b (m.dom b h), by rw [List.length_set]; exact m.len, fun j u a' fp' h1 h2 h3 => ?_, fun j j' u u' a1 fp1 a2 fp2 hj h1 h2 h3 h4 h5 h6 => ?_⟩
  · by_cases e : i = j
    · subst e
      rw [List.getElem?_set_self hi] at h1
      have e1 : (a, fp) = (a', fp') := Option.some.inj (ha.symm.trans h2)
      cases e1
      cases h1
      exact ⟨hn, q2⟩
    · rw [List.getElem?_set_ne e] at h1
      obtain ⟨r1, r2⟩ := m.cell j u a' fp' h1 h2 h3
      exact ⟨r1.pers (ex.pers m.wrws) fun b hb => k b (m.sep j i u dc a' fp' a fp (Ne.symm e) h1 h3 hc hl h2 ha b hb), r2⟩
  · have lv : ∀ j u, (C.set i dc')[j]? = some u → live u → ∃ u2, C[j]? = some u2 ∧ live u2 := fun j u h l => by
      by_cases e : i = j
      · subst e; exact ⟨dc, hc, hl⟩
      · rw [List.getElem?_set_ne e] at h; exact ⟨u, h, l⟩
    obtain ⟨v1, x1, y1⟩ := lv j u h1 h2
    obtain ⟨v2, x2, y2⟩ := lv j' u' h3 h4
    exact m.sep j j' v1 v2 a1 fp1 a2 fp2 hj x1 y1 x2 y2 h5 h6
/-- a list cell is written -/
def cellL : DC → Option (List D)
  | .lst l => some l
  | .pl l => some l
  | _ => none
def cellTo : DC → List D → DC
  | .pl _, l => .pl l
  | _, l => .lst l
theorem Mem.putL {i : Nat} {dc : DC} {l l' : List D} {us' : List V} (m : Mem K W C) (hc : C[i]? = some dc) (hl : cellL dc = some l) (r : Reps K W us' l') :
    ∃ a us, W.As[i]? = some (a, [a]) ∧ W.H a = some (.lst us) ∧ Reps K W us l ∧ a ∈ W.wr ∧ Ext W { W with H := L2.upd W.H a (.lst us') } ∧ Mem K { W with H := L2.upd W.H a (.lst us') } (C.set i (cellTo dc l')) := by
  have hi : i < W.As.length := by rw [← m.len]; exact (List.getElem?_eq_some_iff.mp hc).1
  obtain ⟨⟨a, fp⟩, ha⟩ : ∃ u, W.As[i]? = some u := ⟨_, List.getElem?_eq_getElem hi⟩
  have lv : live dc := by cases dc <;> first | exact trivial | cases hl
  obtain ⟨q1, q2⟩ := m.cell i dc a fp hc ha lv
  have q3 : fp = [a] ∧ ∃ us, W.H a = some (.lst us) ∧ Reps K W us l := by
    cases dc with
    | lst x => cases hl; exact q1
    | pl x => cases hl; exact q1
    | abs P st => cases hl
    | dead => cases hl
    | emp c => cases hl
    | dob c f kvs => cases hl
    | dct kvs => cases hl
  obtain ⟨rfl, us, h1, h2⟩ := q3
  have kk : ∀ b, b ∉ [a] → L2.upd W.H a (.lst us') b = W.H b := fun b hb => upd_ne fun e => hb (by rw [e]; simp)
  have tt : ∀ b ∈ [a], L2.upd W.H a (.lst us') b ≠ none := fun b hb => by
    rw [List.mem_singleton] at hb
    rw [hb, upd_same]; simp
  have ex : Ext W { W with H := L2.upd W.H a (.lst us') } := Ext.write q2 kk tt
  refine ⟨a, us, ha, h1, h2, q2 a (by simp), ex, m.write hc lv ha kk tt ?_⟩
  have hr := Reps.mono (ex.pers m.wrws) r
  cases dc with
  | lst x => exact ⟨rfl, us', upd_same, hr⟩
  | pl x => exact ⟨rfl, us', upd_same, hr⟩
  | abs P st => cases hl
  | dead => cases hl
  | emp c => cases hl
  | dob c f kvs => cases hl
  | dct kvs => cases hl
/-- a list cell becomes a tree -/
theorem Mem.freeze {i : Nat} {l : List D} (m : Mem K W C) (hc : C[i]? = some (.lst l)) :
    ∃ a W', W.As[i]? = some (a, [a]) ∧ W'.H = W.H ∧ Ext W W' ∧ Mem K W' (C.set i .dead) ∧ Rep K W' (.ref a) (.lst l) := by
  have hi : i < W.As.length := by rw [← m.len]; exact (List.getElem?_eq_some_iff.mp hc).1
  have hi' : i < C.length := (List.getElem?_eq_some_iff.mp hc).1
  obtain ⟨⟨a, fp⟩, ha⟩ : ∃ u, W.As[i]? = some u := ⟨_, List.getElem?_eq_getElem hi⟩
  obtain ⟨⟨rfl, us, h1, h2⟩, q2⟩ := m.cell i _ a fp hc ha trivial
  have hw := q2 a (by simp)
  refine ⟨a, { W with ws := W.ws.filter (· ≠ a), wr := W.wr.filter (· ≠ a) }, ha, rfl, ?_⟩
  have ex : Ext W { W with ws := W.ws.filter (· ≠ a), wr := W.wr.filter (· ≠ a) } := by
    refine ⟨fun _ _ h _ => h, fun _ h => h, fun b h => .inl (List.mem_filter.mp h).1, fun b h _ n => List.mem_filter.mpr ⟨h, ?_⟩, fun b h => .inl (List.mem_filter.mp h).1, rfl, [], by simp⟩
    refine decide_eq_true fun e => n (e ▸ hw)
  refine ⟨ex, ⟨fun b h => ?_, fun b h => ?_, fun b h => m.dis b (List.mem_filter.mp h).1, fun b h => m.dom b (List.mem_filter.mp h).1, by rw [List.length_set]; exact m.len, fun j u a' fp' h3 h4 h5 => ?_, fun j j' u u' a1 fp1 a2 fp2 hj h3 h4 h5 h6 h7 h8 => ?_⟩, ?_⟩
  · obtain ⟨x, y⟩ := List.mem_filter.mp h
    exact List.mem_filter.mpr ⟨m.wrws b x, y⟩
  · refine List.mem_filter.mpr ⟨m.pvws b h, decide_eq_true fun e => m.dis a hw (e ▸ h)⟩
  · by_cases e : i = j
    · subst e
      rw [List.getElem?_set_self hi'] at h3
      cases h3
      exact absurd h5 (fun z => z)
    · rw [List.getElem?_set_ne e] at h3
      obtain ⟨r1, r2⟩ := m.cell j u a' fp' h3 h4 h5
      refine ⟨r1.pers (ex.pers m.wrws) fun _ _ => rfl, fun b hb => List.mem_filter.mpr ⟨r2 b hb, decide_eq_true fun z => ?_⟩⟩
      exact m.sep i j _ u a [a] a' fp' e hc trivial h3 h5 ha h4 a (by simp) (z ▸ hb)
  · have lv : ∀ j u, (C.set i .dead)[j]? = some u → live u → C[j]? = some u := fun j u h l => by
      by_cases e : i = j
      · subst e
        rw [List.getElem?_set_self hi'] at h
        cases h
        exact absurd l (fun z => z)
      · rw [List.getElem?_set_ne e] at h; exact h
    exact m.sep j j' u u' a1 fp1 a2 fp2 hj (lv _ _ h3 h4) h4 (lv _ _ h5 h6) h6 h7 h8
  · exact .lst a us l h1 (fun z => by
      have := (List.mem_filter.mp z).2
      simp at this) (Reps.mono (ex.pers m.wrws) h2)
/-- cells behind the n-th are forgotten -/
def cutL (n : Nat) : Sl → Sl := List.map fun o => match o with
  | some (.cel j) => if j < n then some (.cel j) else none
  | some (.sub j) => if j < n then some (.sub j) else none
  | o => o
theorem Mem.cut {n : Nat} (m : Mem K W C) : Mem K { W with As := W.As.take n } (C.take n) := by
  have tk : ∀ {α : Type _} (l : List α) (i : Nat) (u : α), (l.take n)[i]? = some u → l[i]? = some u := fun l i u h => by
    by_cases q : i < n
    · rwa [List.getElem?_take_of_lt q] at h
    · rw [List.getElem?_eq_none (by rw [List.length_take]; omega)] at h; cases h
  refine ⟨m.wrws, m.pvws, m.dis, m.dom, by rw [List.length_take, List.length_take, m.len], fun i dc a fp h1 h2 h3 => ?_, fun i j dc dc' a fp a' fp' hij h1 h2 h3 h4 h5 h6 => m.sep i j dc dc' a fp a' fp' hij (tk _ _ _ h1) h2 (tk _ _ _ h3) h4 (tk _ _ _ h5) (tk _ _ _ h6)⟩
  obtain ⟨q1, q2⟩ := m.cell i dc a fp (tk _ _ _ h1) (tk _ _ _ h2) h3
  exact ⟨q1.pers (fun _ _ h n => ⟨h, n⟩) fun _ _ => rfl, q2⟩
theorem Slo.cut {n : Nat} (h : Slo K W S σ) (hn : n ≤ W.As.length) : Slo K { W with As := W.As.take n } (cutL n S) σ := by
  refine ⟨by rw [← h.len]; exact List.length_map _, fun i x q => ?_⟩
  unfold cutL at q
  rw [List.getElem?_map] at q
  cases hs : S[i]? with
  | none => rw [hs] at q; cases q
  | some o =>
    rw [hs] at q
    cases o with
    | none => cases q
    | some y =>
      obtain ⟨v, h1, h2⟩ := h.get i y hs
      have pe : Pers W { W with As := W.As.take n } := fun _ _ h n => ⟨h, n⟩
      cases y with
      | of d => cases q; exact ⟨v, h1, Rep.mono pe h2⟩
      | bor l =>
        cases q
        obtain ⟨a, us, e, b1, b2, b3, b4⟩ := h2
        exact ⟨v, h1, a, us, e, b1, b2, b3, Reps.mono pe b4⟩
      | scr l =>
        cases q
        obtain ⟨a, us, e, b1, b4⟩ := h2
        exact ⟨v, h1, a, us, e, b1, Reps.mono pe b4⟩
      | cel j =>
        have q' : (if j < n then some (DV.cel j) else none) = some x := Option.some.inj q
        by_cases hj : j < n
        · rw [if_pos hj] at q'
          cases q'
          obtain ⟨a, fp, b1, b2⟩ := h2
          exact ⟨v, h1, a, fp, by show (W.As.take n)[j]? = _; rw [List.getElem?_take_of_lt hj]; exact b1, b2⟩
        · rw [if_neg hj] at q'; cases q'
      | sub j =>
        have q' : (if j < n then some (DV.sub j) else none) = some x := Option.some.inj q
        by_cases hj : j < n
        · rw [if_pos hj] at q'
          cases q'
          obtain ⟨a, fp, b1, b2⟩ := h2
          exact ⟨v, h1, a, fp, by show (W.As.take n)[j]? = _; rw [List.getElem?_take_of_lt hj]; exact b1, b2⟩
        · rw [if_neg hj] at q'; cases q'
theorem Slo.set {i : Nat} {v : V} {x : DV} (h : Slo K W S σ) (r : RepV K W v x) : Slo K W (S.set i (some x)) (σ.set i (some v)) := by
  refine ⟨by rw [List.length_set, List.length_set, h.len], fun j y q => ?_⟩
  by_cases e : i = j
  · subst e
    have hi : i < S.length := by
      have := (List.getElem?_eq_some_iff.mp q).1
      rwa [List.length_set] at this
    rw [List.getElem?_set_self hi] at q
    cases q
    exact ⟨v, by rw [List.getElem?_set_self (by rw [← h.len]; exact hi)], r⟩
  · rw [List.getElem?_set_ne e] at q
    rw [List.getElem?_set_ne e]
    exact h.get j y q
/-- forgetting slots -/
theorem Slo.weak {S' : Sl} (h : Slo K W S σ) (hl : S'.length = S.length) (w : ∀ (i : Nat) x, S'[i]? = some (some x) → S[i]? = some (some x)) : Slo K W S' σ := ⟨hl.trans h.len, fun i x q => h.get i x (w i x q)⟩
end
end Z

set_option Elab.async false
set_option linter.all false
set_option maxRecDepth 100000
set_option maxHeartbeats 4000000
/-! ### judgements over trees: expressions -/
namespace Z
open PySem PySem.Spec PyProof.Rows L2
abbrev DTE := Sl → Cs → (DV → Cs → Prop) → Prop
abbrev DTT := Sl → Cs → (Bool → Cs → Prop) → Prop
abbrev DTA := Sl → Cs → (List DV → Cs → Prop) → Prop
abbrev DTO := Sl → Cs → (Option Int → Cs → Prop) → Prop
abbrev DR1 := DV → Cs → (DV → Cs → Prop) → Prop
abbrev DR2 := DV → DV → Cs → (DV → Cs → Prop) → Prop
abbrev DRA := List DV → Cs → (DV → Cs → Prop) → Prop
/-- what follows, of values -/
abbrev KV (K : PySem.W.Frag) [Gd K] (W : Wd) (S : Sl) (σ : L2.St) (QD : DV → Cs → Prop) (Q : VK) : Prop := ∀ v x W' C', Ext W W' → Sta K W' S C' σ → RepV K W' v x → QD x C' → Q v W'.H
abbrev KT (K : PySem.W.Frag) [Gd K] (W : Wd) (S : Sl) (σ : L2.St) (QD : Bool → Cs → Prop) (Q : Bool → Hp → Prop) : Prop := ∀ b W' C', Ext W W' → Sta K W' S C' σ → QD b C' → Q b W'.H
abbrev KA (K : PySem.W.Frag) [Gd K] (W : Wd) (S : Sl) (σ : L2.St) (n : Nat) (QD : List DV → Cs → Prop) (Q : List V → Hp → Prop) : Prop := ∀ vs xs W' C', vs.length = n → Ext W W' → Sta K W' S C' σ → RepVs K W' vs xs → QD xs C' → Q vs W'.H
abbrev KO (K : PySem.W.Frag) [Gd K] (W : Wd) (S : Sl) (σ : L2.St) (QD : Option Int → Cs → Prop) (Q : Option Int → Hp → Prop) : Prop := ∀ o W' C', Ext W W' → Sta K W' S C' σ → QD o C' → Q o W'.H
section
variable {K : PySem.W.Frag} [Gd K] {W W' W1 : Wd} {S : Sl} {C : Cs} {σ : L2.St}
theorem KV.ext {QD : DV → Cs → Prop} {Q : VK} (k : KV K W S σ QD Q) (e : Ext W W1) : KV K W1 S σ QD Q := fun v x W' C' e' => k v x W' C' (e.trans e')
theorem KT.ext {QD : Bool → Cs → Prop} {Q : Bool → Hp → Prop} (k : KT K W S σ QD Q) (e : Ext W W1) : KT K W1 S σ QD Q := fun b W' C' e' => k b W' C' (e.trans e')
end
theorem KV.here {K : PySem.W.Frag} [Gd K] {W : Wd} {S : Sl} {C : Cs} {σ : L2.St} {QD : DV → Cs → Prop} {Q : VK} (k : KV K W S σ QD Q) (st : Sta K W S C σ) {v : V} {d : D} (r : Rep K W v d) (q : QD (.of d) C) : Q v W.H := k v (.of d) W C .refl st r q
theorem KV.at {K : PySem.W.Frag} [Gd K] {W W1 : Wd} {S : Sl} {C1 : Cs} {σ : L2.St} {QD : DV → Cs → Prop} {Q : VK} (k : KV K W S σ QD Q) (e : Ext W W1) (st : Sta K W1 S C1 σ) {v : V} {d : D} (r : Rep K W1 v d) (q : QD (.of d) C1) : Q v W1.H := k v (.of d) W1 C1 e st r q
def RefE (K : PySem.W.Frag) [Gd K] (te : TE) (d : DTE) : Prop := ∀ W S C σ, Sta K W S C σ → ∀ QD Q, d S C QD → KV K W S σ QD Q → te σ W.H Q
def RefT (K : PySem.W.Frag) [Gd K] (tt : TT) (d : DTT) : Prop := ∀ W S C σ, Sta K W S C σ → ∀ QD Q, d S C QD → KT K W S σ QD Q → tt σ W.H Q
def RefA (K : PySem.W.Frag) [Gd K] (n : Nat) (ta : TA) (d : DTA) : Prop := ∀ W S C σ, Sta K W S C σ → ∀ QD Q, d S C QD → KA K W S σ n QD Q → ta σ W.H Q
def RefO (K : PySem.W.Frag) [Gd K] (to : TO) (d : DTO) : Prop := ∀ W S C σ, Sta K W S C σ → ∀ QD Q, d S C QD → KO K W S σ QD Q → to σ W.H Q
def RefR (K : PySem.W.Frag) [Gd K] (r : R2) (d : DR2) : Prop := ∀ W S C σ, Sta K W S C σ → ∀ v u x y QD Q, RepV K W v x → RepV K W u y → d x y C QD → KV K W S σ QD Q → r v u W.H Q
def RefU (K : PySem.W.Frag) [Gd K] (r : V → Hp → VK → Prop) (d : DR1) : Prop := ∀ W S C σ, Sta K W S C σ → ∀ v x QD Q, RepV K W v x → d x C QD → KV K W S σ QD Q → r v W.H Q
def RefC (K : PySem.W.Frag) [Gd K] (n : Nat) (r : List V → Hp → VK → Prop) (d : DRA) : Prop := ∀ W S C σ, Sta K W S C σ → ∀ vs xs QD Q, vs.length = n → RepVs K W vs xs → d xs C QD → KV K W S σ QD Q → r vs W.H Q
structure QE (K : PySem.W.Frag) [Gd K] (X : Cx) (e : Expr) (te : TE) (d : DTE) : Prop where
  p : PE X e te
  r : RefE K te d
structure QT (K : PySem.W.Frag) [Gd K] (X : Cx) (e : Expr) (te : TT) (d : DTT) : Prop where
  p : PT X e te
  r : RefT K te d
structure QW (K : PySem.W.Frag) [Gd K] (X : Cx) (e : Expr) (te : TT) (d : DTT) : Prop where
  p : PW X e te
  r : RefT K te d
structure QA (K : PySem.W.Frag) [Gd K] (X : Cx) (es : List Expr) (n : Nat) (t : TA) (d : DTA) : Prop where
  p : PA X es t
  r : RefA K n t d
structure QO (K : PySem.W.Frag) [Gd K] (X : Cx) (o : Option Expr) (t : TO) (d : DTO) : Prop where
  p : PO X o t
  r : RefO K t d
structure QOp (K : PySem.W.Frag) [Gd K] (X : Cx) (f : Value → Value → Sem Value) (r : R2) (d : DR2) : Prop where
  p : OpR X f r
  r : RefR K r d
structure QUn (K : PySem.W.Frag) [Gd K] (X : Cx) (f : Value → Sem Value) (r : V → Hp → VK → Prop) (d : DR1) : Prop where
  p : UnR X f r
  r : RefU K r d
structure QC (K : PySem.W.Frag) [Gd K] (X : Cx) (f : Value) (n : Nat) (r : List V → Hp → VK → Prop) (d : DRA) : Prop where
  p : CallR X f r
  r : RefC K n r d
structure QIx (K : PySem.W.Frag) [Gd K] (X : Cx) (r : R2) (d : DR2) : Prop where
  p : IxR X r
  r : RefR K r d
/-- names, constants -/
def dVar (i : Nat) : DTE := fun S C Q => match S[i]? with | some (some x) => Q x C | _ => False
def dC (d : D) : DTE := fun _ C Q => Q (.of d) C
def dOp (r : DR2) (a b : DTE) : DTE := fun S C Q => a S C fun x C1 => b S C1 fun y C2 => r x y C2 Q
def dUn (r : DR1) (a : DTE) : DTE := fun S C Q => a S C fun x C1 => r x C1 Q
section
variable {K : PySem.W.Frag} [Gd K] {X : Cx} {a b c e : Expr} {ta tb tc te : TE} {da db dc de : DTE} {pos : Pos}
theorem qv (i : Nat) {x : Str} {pos : Pos} (hN : X.N[i]? = some x := by rfl) (hv : Vis X.env.scope x := by first | exact .inl rfl | exact .inr (.inl rfl) | exact .inr (.inr rfl) | exact vis_slot rfl rfl) (hd : (x == ("__debug__" : Str)) = false := by decide) (hcd : (x == ("__classdict__" : Str)) = false := by decide) :
    QE K X (.Name x pos) (tVar i) (dVar i) := ⟨pe_var hN hv hd hcd, fun W S C σ st QD Q h k => by
  unfold dVar at h
  split at h
  · rename_i x hx
    obtain ⟨v, h1, h2⟩ := st.s.get i _ hx
    exact ⟨v, h1, k v _ W C .refl st h2 h⟩
  · exact h.elim⟩
theorem refE_c {v : V} {d : D} (h : ∀ W, Rep K W v d) : RefE K (tC v) (dC d) := fun W S C σ st QD Q q k => k.here st (h W) q
theorem qe_int {i j pos} : QE K X (.Constant (.int i) j pos) (tC (.int i)) (dC (.int i)) := ⟨pe_int, refE_c fun _ => .int i⟩
theorem qe_bl {b j pos} : QE K X (.Constant (.bool b) j pos) (tC (.bl b)) (dC (.bl b)) := ⟨pe_bl, refE_c fun _ => .bl b⟩
theorem qe_non {j pos} : QE K X (.Constant .none j pos) (tC .non) (dC .non) := ⟨pe_non, refE_c fun _ => .non⟩
theorem qe_str {x j pos} : QE K X (.Constant (.str x) j pos) (tC (.str x)) (dC (.str (cl x))) := ⟨pe_str, refE_c fun _ => .str x⟩
theorem qe_gs {x z : Str} {pos : Pos} (h : ∃ t, X.mg x = some (.str z t)) (hg : Gl X x := by rfl) (hd : (x == ("__debug__" : Str)) = false := by decide) : QE K X (.Name x pos) (tC (.str z)) (dC (.str (cl z))) := ⟨pe_gs h hg hd, refE_c fun _ => .str z⟩
theorem qe_gi {x : Str} {z : Int} {pos : Pos} (h : ∃ t, X.mg x = some (.int z t)) (hg : Gl X x := by rfl) (hd : (x == ("__debug__" : Str)) = false := by decide) : QE K X (.Name x pos) (tC (.int z)) (dC (.int z)) := ⟨pe_gi h hg hd, refE_c fun _ => .int z⟩
/-- a tuple of the module -/
theorem qe_gt {x : Str} {a : Addr} {us : List V} {ds : List D} {pos : Pos} (h : X.mg x = some (.ref a)) (hs : ∀ H, SqT K H a us) (r : ∀ W, Reps K W us ds) (hg : Gl X x := by rfl) (hd : (x == ("__debug__" : Str)) = false := by decide) : QE K X (.Name x pos) (tC (.ref a)) (dC (.tup ds)) :=
  ⟨pe_gr h hg hd, refE_c fun W => .tupK a us ds hs (r W)⟩
/-- a class, a def of the module -/
theorem qe_gr {x : Str} {a : Addr} {pos : Pos} (h : X.mg x = some (.ref a)) (hg : Gl X x := by rfl) (hd : (x == ("__debug__" : Str)) = false := by decide) : QE K X (.Name x pos) (tC (.ref a)) (dC (.val (.ref a))) := ⟨pe_gr h hg hd, refE_c fun _ => .val _⟩
theorem qe_bltn {x : Str} {v : V} {u : Value} {pos : Pos} (hg : Gl X x) (hm : X.mg x = none) (hv : bootBuiltins x = some u) (r : RelV v u) (hn : x ≠ "__name__" := by decide) (hd : (x == ("__debug__" : Str)) = false := by decide) : QE K X (.Name x pos) (tC v) (dC (.val v)) :=
  ⟨pe_bltn hg hm hv r hn hd, refE_c fun _ => .val _⟩
theorem refE_op {r : R2} {dr : DR2} (hr : RefR K r dr) (ha : RefE K ta da) (hb : RefE K tb db) : RefE K (tOp r ta tb) (dOp dr da db) := fun W S C σ st QD Q h k =>
  ha W S C σ st _ _ h fun v x W1 C1 e1 s1 r1 h1 => hb W1 S C1 σ s1 _ _ h1 fun u y W2 C2 e2 s2 r2 h2 =>
    hr W2 S C2 σ s2 v u x y _ _ (r1.mono s1.m e2) r2 h2 (KV.ext k (e1.trans e2))
theorem qe_op {op : Operator} {r : R2} {dr : DR2} (ho : QOp K X (binaryOp op) r dr) (ha : QE K X a ta da) (hb : QE K X b tb db) : QE K X (.BinOp a op b pos) (tOp r ta tb) (dOp dr da db) := ⟨pe_op ho.p ha.p hb.p, refE_op ho.r ha.r hb.r⟩
theorem qe_cmpR {op : CmpOp} {r : R2} {dr : DR2} (ho : QOp K X (compareOp op) r dr) (ha : QE K X a ta da) (hb : QE K X b tb db) (hm : behindInMarks op b = false) : QE K X (.Compare a [op] [b] pos) (tOp r ta tb) (dOp dr da db) := ⟨pe_cmpR ho.p ha.p hb.p hm, refE_op ho.r ha.r hb.r⟩
theorem qe_ix {r : R2} {dr : DR2} (hr : QIx K X r dr) (ha : QE K X a ta da) (hb : QE K X b tb db) (hs : PlainIx b) : QE K X (.Subscript a b pos) (tOp r ta tb) (dOp dr da db) := ⟨pe_ix hr.p ha.p hb.p hs, refE_op hr.r ha.r hb.r⟩
theorem refE_un {r : V → Hp → VK → Prop} {dr : DR1} (hr : RefU K r dr) (ha : RefE K ta da) : RefE K (tUn r ta) (dUn dr da) := fun W S C σ st QD Q h k =>
  ha W S C σ st _ _ h fun v x W1 C1 e1 s1 r1 h1 => hr W1 S C1 σ s1 v x _ _ r1 h1 (KV.ext k e1)
theorem qe_un {op : UnaryOp} {r : V → Hp → VK → Prop} {dr : DR1} (ho : QUn K X (unaryOp op) r dr) (ha : QE K X a ta da) : QE K X (.UnaryOp op a pos) (tUn r ta) (dUn dr da) := ⟨pe_un ho.p ha.p, refE_un ho.r ha.r⟩
/-! tests -/
def dTest (d : DTE) : DTT := fun S C Q => d S C fun x C1 => match x with | .of (.bl k) => Q k C1 | _ => False
theorem refT_test (h : RefE K te de) : RefT K (fun σ H Q => te σ H fun x H' => ∃ k, x = .bl k ∧ Q k H') (dTest de) := fun W S C σ st QD Q h1 k =>
  h W S C σ st _ _ h1 fun v x W1 C1 e1 s1 r1 h2 => by
    split at h2
    · rename_i b
      cases r1
      exact ⟨b, rfl, k b W1 C1 e1 s1 h2⟩
    · exact h2.elim
theorem qt_cmpR {op : CmpOp} {r : R2} {dr : DR2} (ho : QOp K X (compareOp op) r dr) (ha : QE K X a ta da) (hb : QE K X b tb db) (hm : behindInMarks op b = false) : QT K X (.Compare a [op] [b] pos) (tTest (tOp r ta tb)) (dTest (dOp dr da db)) := ⟨pt_cmpR ho.p ha.p hb.p hm, refT_test (refE_op ho.r ha.r hb.r)⟩
theorem qt_val (h : QE K X e te de) (he : ∀ whole, isTrue e X.env whole = (do let v ← whole; standAt e.pos; holding [v] (truthy v)) := by intro _; rfl) : QT K X e (tB te) (dTest de) := ⟨pt_val h.p he, refT_test h.r⟩
def dChain (r r' : DR2) (a b c : DTE) : DTE := fun S C Q => a S C fun x C1 => b S C1 fun y C2 => r x y C2 fun z C3 => match z with
  | .of (.bl k) => if k = true then c S C3 fun w C4 => r' y w C4 Q else Q (.of (.bl false)) C3
  | _ => False
theorem refE_chain {r r' : R2} {dr dr' : DR2} (h1 : RefR K r dr) (h2 : RefR K r' dr') (ha : RefE K ta da) (hb : RefE K tb db) (hc : RefE K tc dc) : RefE K (tChain r r' ta tb tc) (dChain dr dr' da db dc) := fun W S C σ st QD Q h k =>
  ha W S C σ st _ _ h fun v x W1 C1 e1 s1 r1 q1 => hb W1 S C1 σ s1 _ _ q1 fun u y W2 C2 e2 s2 r2 q2 =>
    h1 W2 S C2 σ s2 v u x y _ _ (r1.mono s1.m e2) r2 q2 fun z d W3 C3 e3 s3 r3 q3 => by
      split at q3
      · rename_i b
        cases r3
        refine ⟨b, rfl, ?_⟩
        cases b with
        | true =>
          rw [if_pos rfl] at q3 ⊢
          exact hc W3 S C3 σ s3 _ _ q3 fun w d W4 C4 e4 s4 r4 q4 => h2 W4 S C4 σ s4 u w y d _ _ ((r2.mono s2.m e3).mono s3.m e4) r4 q4 (KV.ext k (((e1.trans e2).trans e3).trans e4))
        | false =>
          rw [if_neg (by simp)] at q3 ⊢
          exact k.at ((e1.trans e2).trans e3) s3 (.bl false) q3
      · exact q3.elim
theorem qe_chain {op op' : CmpOp} {r r' : R2} {dr dr' : DR2} (ho : QOp K X (compareOp op) r dr) (ho' : QOp K X (compareOp op') r' dr') (ha : QE K X a ta da) (hb : QE K X b tb db) (hc : QE K X c tc dc)
    (hm : lastMarks [op, op'] [b, c] = false := by with_unfolding_all rfl) : QE K X (.Compare a [op, op'] [b, c] pos) (tChain r r' ta tb tc) (dChain dr dr' da db dc) := ⟨pe_chain ho.p ho'.p ha.p hb.p hc.p hm, refE_chain ho.r ho'.r ha.r hb.r hc.r⟩
theorem qt_chain {op op' : CmpOp} {r r' : R2} {dr dr' : DR2} (ho : QOp K X (compareOp op) r dr) (ho' : QOp K X (compareOp op') r' dr') (ha : QE K X a ta da) (hb : QE K X b tb db) (hc : QE K X c tc dc)
    (hm : lastMarks [op, op'] [b, c] = false := by with_unfolding_all rfl) : QT K X (.Compare a [op, op'] [b, c] pos) (tTest (tChain r r' ta tb tc)) (dTest (dChain dr dr' da db dc)) := ⟨pt_chain ho.p ho'.p ha.p hb.p hc.p hm, refT_test (refE_chain ho.r ho'.r ha.r hb.r hc.r)⟩
/-! and, or, not -/
variable {t1 t2 : TT} {d1 d2 : DTT} {rest : List Expr}
def dAnd (t u : DTT) : DTT := fun S C Q => t S C fun c C1 => if c = true then u S C1 Q else Q false C1
def dOr (t u : DTT) : DTT := fun S C Q => t S C fun c C1 => if c = true then Q true C1 else u S C1 Q
def dNot (t : DTT) : DTT := fun S C Q => t S C fun c C1 => Q (!c) C1
theorem refT_and (h1 : RefT K t1 d1) (h2 : RefT K t2 d2) : RefT K (tAnd t1 t2) (dAnd d1 d2) := fun W S C σ st QD Q h k =>
  h1 W S C σ st _ _ h fun b W1 C1 e1 s1 q1 => by
    cases b with
    | true => rw [if_pos rfl] at q1 ⊢; exact h2 W1 S C1 σ s1 _ _ q1 (KT.ext k e1)
    | false => rw [if_neg (by simp)] at q1 ⊢; exact k false W1 C1 e1 s1 q1
theorem refT_or (h1 : RefT K t1 d1) (h2 : RefT K t2 d2) : RefT K (tOr t1 t2) (dOr d1 d2) := fun W S C σ st QD Q h k =>
  h1 W S C σ st _ _ h fun b W1 C1 e1 s1 q1 => by
    cases b with
    | true => rw [if_pos rfl] at q1 ⊢; exact k true W1 C1 e1 s1 q1
    | false => rw [if_neg (by simp)] at q1 ⊢; exact h2 W1 S C1 σ s1 _ _ q1 (KT.ext k e1)
theorem qw_and1 (ha : QT K X a t1 d1) : QW K X (.BoolOp .And [a] pos) t1 d1 := ⟨pw_and1 ha.p, ha.r⟩
theorem qw_or1 (ha : QT K X a t1 d1) : QW K X (.BoolOp .Or [a] pos) t1 d1 := ⟨pw_or1 ha.p, ha.r⟩
theorem qw_and (ha : QT K X a t1 d1) (hb : QW K X (.BoolOp .And (b :: rest) pos) t2 d2) : QW K X (.BoolOp .And (a :: b :: rest) pos) (tAnd t1 t2) (dAnd d1 d2) := ⟨pw_and ha.p hb.p, refT_and ha.r hb.r⟩
theorem qw_or (ha : QT K X a t1 d1) (hb : QW K X (.BoolOp .Or (b :: rest) pos) t2 d2) : QW K X (.BoolOp .Or (a :: b :: rest) pos) (tOr t1 t2) (dOr d1 d2) := ⟨pw_or ha.p hb.p, refT_or ha.r hb.r⟩
theorem QW.qt {e : Expr} (h : QW K X e t1 d1) : QT K X e t1 d1 := ⟨PW.pt h.p, h.r⟩
theorem qt_not (ha : QT K X a t1 d1) : QT K X (.UnaryOp .Not a pos) (tNot t1) (dNot d1) := ⟨pt_not ha.p, fun W S C σ st QD Q h k => ha.r W S C σ st _ _ h fun b W1 C1 e1 s1 q1 => k (!b) W1 C1 e1 s1 q1⟩
def dAndV (a b : DTE) : DTE := fun S C Q => a S C fun x C1 => match x with | .of (.bl k) => if k = true then b S C1 Q else Q (.of (.bl false)) C1 | _ => False
def dOrV (a b : DTE) : DTE := fun S C Q => a S C fun x C1 => match x with | .of (.bl k) => if k = true then Q (.of (.bl true)) C1 else b S C1 Q | _ => False
def dNotV (a : DTE) : DTE := fun S C Q => a S C fun x C1 => match x with | .of (.bl k) => Q (.of (.bl (!k))) C1 | _ => False
theorem qe_one {op} (h : QE K X a ta da) : QE K X (.BoolOp op [a] pos) ta da := ⟨pe_one h.p, h.r⟩
theorem qe_and (ha : QE K X a ta da) (hb : QE K X (.BoolOp .And (b :: rest) pos) tb db) : QE K X (.BoolOp .And (a :: b :: rest) pos) (tAndV ta tb) (dAndV da db) := ⟨pe_and ha.p hb.p, fun W S C σ st QD Q h k =>
  ha.r W S C σ st _ _ h fun v x W1 C1 e1 s1 r1 q1 => by
    split at q1
    · rename_i b
      cases r1
      refine ⟨b, rfl, ?_⟩
      cases b with
      | true => rw [if_pos rfl] at q1 ⊢; exact hb.r W1 S C1 σ s1 _ _ q1 (KV.ext k e1)
      | false => rw [if_neg (by simp)] at q1 ⊢; exact k.at e1 s1 (.bl false) q1
    · exact q1.elim⟩
theorem qe_or (ha : QE K X a ta da) (hb : QE K X (.BoolOp .Or (b :: rest) pos) tb db) : QE K X (.BoolOp .Or (a :: b :: rest) pos) (tOrV ta tb) (dOrV da db) := ⟨pe_or ha.p hb.p, fun W S C σ st QD Q h k =>
  ha.r W S C σ st _ _ h fun v x W1 C1 e1 s1 r1 q1 => by
    split at q1
    · rename_i b
      cases r1
      refine ⟨b, rfl, ?_⟩
      cases b with
      | true => rw [if_pos rfl] at q1 ⊢; exact k.at e1 s1 (.bl true) q1
      | false => rw [if_neg (by simp)] at q1 ⊢; exact hb.r W1 S C1 σ s1 _ _ q1 (KV.ext k e1)
    · exact q1.elim⟩
theorem qe_not (ha : QE K X a ta da) : QE K X (.UnaryOp .Not a pos) (tNotV ta) (dNotV da) := ⟨pe_not ha.p, fun W S C σ st QD Q h k =>
  ha.r W S C σ st _ _ h fun v x W1 C1 e1 s1 r1 q1 => by
    split at q1
    · rename_i b
      cases r1
      exact ⟨b, rfl, k.at e1 s1 (.bl (!b)) q1⟩
    · exact q1.elim⟩
def dIf (t : DTT) (a b : DTE) : DTE := fun S C Q => t S C fun c C1 => if c = true then a S C1 Q else b S C1 Q
theorem qe_ifExp (hc : QT K X c t1 d1) (ha : QE K X a ta da) (hb : QE K X b tb db) : QE K X (.IfExp c a b pos) (tIf t1 ta tb) (dIf d1 da db) := ⟨pe_ifExp hc.p ha.p hb.p, fun W S C σ st QD Q h k =>
  hc.r W S C σ st _ _ h fun b W1 C1 e1 s1 q1 => by
    cases b with
    | true => rw [if_pos rfl] at q1 ⊢; exact ha.r W1 S C1 σ s1 _ _ q1 (KV.ext k e1)
    | false => rw [if_neg (by simp)] at q1 ⊢; exact hb.r W1 S C1 σ s1 _ _ q1 (KV.ext k e1)⟩
/-! ints -/
def dI0 (g : Int → Int → D) : DR2 := fun x y C Q => match x, y with | .of (.int i), .of (.int j) => Q (.of (g i j)) C | _, _ => False
def dIC (c : Int → Int → Prop) (g : Int → Int → D) : DR2 := fun x y C Q => match x, y with | .of (.int i), .of (.int j) => c i j ∧ Q (.of (g i j)) C | _, _ => False
theorem refR_I0 {g : Int → Int → V} {d : Int → Int → D} (h : ∀ W i j, Rep K W (g i j) (d i j)) : RefR K (rI0 g) (dI0 d) := fun W S C σ st v u x y QD Q rx ry q k => by
  unfold dI0 at q
  split at q
  · cases rx; cases ry
    exact ⟨_, _, rfl, rfl, k.here st (h W _ _) q⟩
  · exact q.elim
theorem refR_IC {c : Int → Int → Prop} {g : Int → Int → V} {d : Int → Int → D} (h : ∀ W i j, Rep K W (g i j) (d i j)) : RefR K (rI c g) (dIC c d) := fun W S C σ st v u x y QD Q rx ry q k => by
  unfold dIC at q
  split at q
  · cases rx; cases ry
    exact ⟨_, _, rfl, rfl, q.1, k.here st (h W _ _) q.2⟩
  · exact q.elim
theorem oq_add : QOp K X (binaryOp .Add) (rI0 fun i j => .int (i + j)) (dI0 fun i j => .int (i + j)) := ⟨op_add, refR_I0 fun _ _ _ => .int _⟩
theorem oq_sub : QOp K X (binaryOp .Sub) (rI0 fun i j => .int (i - j)) (dI0 fun i j => .int (i - j)) := ⟨op_sub, refR_I0 fun _ _ _ => .int _⟩
theorem oq_mul : QOp K X (binaryOp .Mult) (rI CMul fun i j => .int (i * j)) (dIC CMul fun i j => .int (i * j)) := ⟨op_mul, refR_IC fun _ _ _ => .int _⟩
theorem oq_mulW : QOp K X (binaryOp .Mult) (rI CMulW fun i j => .int (i * j)) (dIC CMulW fun i j => .int (i * j)) := ⟨op_mulW, refR_IC fun _ _ _ => .int _⟩
theorem oq_mod : QOp K X (binaryOp .Mod) (rI (fun _ j => 0 < j) fun i j => .int (i % j)) (dIC (fun _ j => 0 < j) fun i j => .int (i % j)) := ⟨op_mod, refR_IC fun _ _ _ => .int _⟩
theorem oq_fdivW : QOp K X (binaryOp .FloorDiv) (rI CDivW fun i j => .int (i / j)) (dIC CDivW fun i j => .int (i / j)) := ⟨op_fdivW, refR_IC fun _ _ _ => .int _⟩
theorem oq_fdiv : QOp K X (binaryOp .FloorDiv) (rI CDiv fun i j => .int (i / j)) (dIC CDiv fun i j => .int (i / j)) := ⟨op_fdiv, refR_IC fun _ _ _ => .int _⟩
theorem oq_pow : QOp K X (binaryOp .Pow) (rI CPow fun i j => .int (i ^ j.toNat)) (dIC CPow fun i j => .int (i ^ j.toNat)) := ⟨op_pow, refR_IC fun _ _ _ => .int _⟩
theorem ioq_add : QOp K X (inplaceOp .Add) (rI0 fun i j => .int (i + j)) (dI0 fun i j => .int (i + j)) := ⟨iop_add, refR_I0 fun _ _ _ => .int _⟩
theorem ioq_sub : QOp K X (inplaceOp .Sub) (rI0 fun i j => .int (i - j)) (dI0 fun i j => .int (i - j)) := ⟨iop_sub, refR_I0 fun _ _ _ => .int _⟩
theorem oq_lt : QOp K X (compareOp .Lt) (rI0 fun i j => .bl (decide (i < j))) (dI0 fun i j => .bl (decide (i < j))) := ⟨op_lt, refR_I0 fun _ _ _ => .bl _⟩
theorem oq_le : QOp K X (compareOp .LtE) (rI0 fun i j => .bl (decide (i ≤ j))) (dI0 fun i j => .bl (decide (i ≤ j))) := ⟨op_le, refR_I0 fun _ _ _ => .bl _⟩
theorem oq_gt : QOp K X (compareOp .Gt) (rI0 fun i j => .bl (decide (j < i))) (dI0 fun i j => .bl (decide (j < i))) := ⟨op_gt, refR_I0 fun _ _ _ => .bl _⟩
theorem oq_ge : QOp K X (compareOp .GtE) (rI0 fun i j => .bl (decide (j ≤ i))) (dI0 fun i j => .bl (decide (j ≤ i))) := ⟨op_ge, refR_I0 fun _ _ _ => .bl _⟩
def dNeg : DR1 := fun x C Q => match x with | .of (.int i) => Q (.of (.int (-i))) C | _ => False
theorem uq_neg : QUn K X (unaryOp .USub) (rU fun i => .int (-i)) dNeg := ⟨un_neg, fun W S C σ st v x QD Q rx q k => by
  unfold dNeg at q
  split at q
  · cases rx
    exact ⟨_, rfl, k.here st (.int _) q⟩
  · exact q.elim⟩
/-! texts -/
abbrev Z16 (n : Nat) : Prop := n ≤ 16777216
theorem rep_str {l : List Nat} {v : V} {W : Wd} (h : Rep K W v (.str l)) : ∃ z, v = .str z ∧ cl z = l := by cases h; exact ⟨_, rfl, rfl⟩
theorem rep_of {l : List Nat} {z : Str} {W : Wd} (h : cl z = l) : Rep K W (.str z) (.str l) := by subst h; exact .str z
def dAddS : DR2 := fun x y C Q => match x, y with | .of (.str a), .of (.str b) => Z16 (a.length + b.length) ∧ Q (.of (.str (a ++ b))) C | _, _ => False
theorem refR_addS : RefR K (fun x y H Q => ∃ i j, x = .str i ∧ y = .str j ∧ i.length + j.length ≤ sizeLine ∧ Q (.str (i ++ j)) H) dAddS := fun W S C σ st v u x y QD Q rx ry q k => by
  unfold dAddS at q
  split at q
  · obtain ⟨z, rfl, rfl⟩ := rep_str rx
    obtain ⟨w, rfl, rfl⟩ := rep_str ry
    refine ⟨_, _, rfl, rfl, line_of (by rw [← cl_len, ← cl_len]; exact q.1), k.here st (rep_of (cl_append z w)) q.2⟩
  · exact q.elim
theorem oq_add_str : QOp K X (binaryOp .Add) (fun x y H Q => ∃ i j, x = .str i ∧ y = .str j ∧ i.length + j.length ≤ sizeLine ∧ Q (.str (i ++ j)) H) dAddS := ⟨op_add_str, refR_addS⟩
theorem ioq_add_str : QOp K X (inplaceOp .Add) (fun x y H Q => ∃ i j, x = .str i ∧ y = .str j ∧ i.length + j.length ≤ sizeLine ∧ Q (.str (i ++ j)) H) dAddS := ⟨iop_add_str, refR_addS⟩
def dMulS : DR2 := fun x y C Q => match x, y with | .of (.str a), .of (.int n) => (n ≤ 100000 ∧ -100000 ≤ n ∧ a.length ≤ 100000 ∧ Z16 (a.length * n.toNat)) ∧ Q (.of (.str (rep n a))) C | _, _ => False
theorem oq_mul_str : QOp K X (binaryOp .Mult) (fun x y H Q => ∃ (z : Str) (n : Int), x = .str z ∧ y = .int n ∧ n ≤ 100000 ∧ -100000 ≤ n ∧ z.length ≤ 100000 ∧ z.length * n.toNat ≤ 16777216 ∧ ∀ y : Str, cl y = rep n (cl z) → Q (.str y) H) dMulS := ⟨op_mul_str, fun W S C σ st v u x y QD Q rx ry q k => by
  unfold dMulS at q
  split at q
  · obtain ⟨z, rfl, rfl⟩ := rep_str rx
    cases ry
    obtain ⟨⟨q1, q2, q3, q4⟩, q5⟩ := q
    exact ⟨z, _, rfl, rfl, q1, q2, by rw [← cl_len]; exact q3, by rw [← cl_len]; exact q4, fun y hy => k.here st (rep_of hy) q5⟩
  · exact q.elim⟩
def dLtS : DR2 := fun x y C Q => match x, y with | .of (.str a), .of (.str b) => Q (.of (.bl (decide (a < b)))) C | _, _ => False
theorem oq_lt_str : QOp K X (compareOp .Lt) (fun x y H Q => ∃ i j, x = .str i ∧ y = .str j ∧ Q (.bl (decide (i.cps.toList < j.cps.toList))) H) dLtS := ⟨op_lt_str, fun W S C σ st v u x y QD Q rx ry q k => by
  unfold dLtS at q
  split at q
  · obtain ⟨z, rfl, rfl⟩ := rep_str rx
    obtain ⟨w, rfl, rfl⟩ := rep_str ry
    exact ⟨_, _, rfl, rfl, k.here st (.bl _) q⟩
  · exact q.elim⟩
/-- one sign in a text -/
def dInC (neg : Bool) : DR2 := fun x y C Q => match x, y with | .of (.str [c]), .of (.str b) => Q (.of (.bl (cond neg (!decide (c ∈ b)) (decide (c ∈ b))))) C | _, _ => False
theorem one_of {z : Str} {c : Nat} (h : cl z = [c]) : z = ⟨#[c]⟩ := by rw [str_eq, h]
theorem oq_in_sign : QOp K X (compareOp .In) (fun x y H Q => ∃ (c : Nat) (z : Str), x = .str ⟨#[c]⟩ ∧ y = .str z ∧ Q (.bl (decide (c ∈ z.cps.toList))) H) (dInC false) := ⟨op_in_sign, fun W S C σ st v u x y QD Q rx ry q k => by
  unfold dInC at q
  split at q
  · obtain ⟨z, rfl, hz⟩ := rep_str rx
    obtain ⟨w, rfl, rfl⟩ := rep_str ry
    exact ⟨_, w, by rw [one_of hz], rfl, k.here st (.bl _) q⟩
  · exact q.elim⟩
theorem oq_notIn_sign : QOp K X (compareOp .NotIn) (fun x y H Q => ∃ (c : Nat) (z : Str), x = .str ⟨#[c]⟩ ∧ y = .str z ∧ Q (.bl (!decide (c ∈ z.cps.toList))) H) (dInC true) := ⟨op_notIn_sign, fun W S C σ st v u x y QD Q rx ry q k => by
  unfold dInC at q
  split at q
  · obtain ⟨z, rfl, hz⟩ := rep_str rx
    obtain ⟨w, rfl, rfl⟩ := rep_str ry
    exact ⟨_, w, by rw [one_of hz], rfl, k.here st (.bl _) q⟩
  · exact q.elim⟩
/-! == of scalars, is None -/
def scD : D → D → Option Bool
  | .non, .non => some true
  | .non, .int _ => some false | .int _, .non => some false | .non, .bl _ => some false | .bl _, .non => some false | .non, .str _ => some false | .str _, .non => some false
  | .int i, .int j => some (decide (i = j)) | .bl a, .bl b => some (decide (a = b)) | .str a, .str b => some (decide (a = b))
  | .int _, .str _ => some false | .str _, .int _ => some false | .bl _, .str _ => some false | .str _, .bl _ => some false
  | _, _ => none
def dEqS (neg : Bool) : DR2 := fun x y C Q => match x, y with
  | .of a, .of b => (match scD a b with | some r => Q (.of (.bl (cond neg (!r) r))) C | none => False)
  | _, _ => False
theorem scD_ok {W : Wd} {v u : V} {a b : D} {r : Bool} (ra : Rep K W v a) (rb : Rep K W u b) (h : scD a b = some r) : scal v u = true ∧ r = decide (v = u) := by
  cases ra <;> cases rb <;> first | (cases h; done) | (cases h; exact ⟨rfl, rfl⟩) | skip
  · rename_i a b; cases h; exact ⟨rfl, by rw [decide_eq_decide, V.bl.injEq]⟩
  · rename_i a b; cases h; exact ⟨rfl, by rw [decide_eq_decide, V.int.injEq]⟩
  · rename_i a b; cases h; exact ⟨rfl, by rw [decide_eq_decide, V.str.injEq, str_eq]⟩
theorem oq_eq : QOp K X (compareOp .Eq) rEq (dEqS false) := ⟨op_eq, fun W S C σ st v u x y QD Q rx ry q k => by
  unfold dEqS at q
  split at q
  · split at q
    · rename_i r hr
      obtain ⟨h1, h2⟩ := scD_ok rx ry hr
      exact ⟨h1, k.here st (.bl _) (by rw [← h2]; exact q)⟩
    · exact q.elim
  · exact q.elim⟩
theorem oq_ne : QOp K X (compareOp .NotEq) rNe (dEqS true) := ⟨op_ne, fun W S C σ st v u x y QD Q rx ry q k => by
  unfold dEqS at q
  split at q
  · split at q
    · rename_i r hr
      obtain ⟨h1, h2⟩ := scD_ok rx ry hr
      exact ⟨h1, k.here st (.bl _) (by rw [← h2]; exact q)⟩
    · exact q.elim
  · exact q.elim⟩
/-- whether it is None -/
def isNonV : DV → Option Bool
  | .of .non => some true
  | .of (.val _) => none
  | .of _ => some false
  | .cel _ => some false
  | .bor _ => some false
  | .scr _ => some false
  | .sub _ => some false
theorem isNonV_ok {W : Wd} {v : V} {x : DV} {r : Bool} (h : RepV K W v x) (e : isNonV x = some r) : decide (v = .non) = r := by
  cases x with
  | of d => cases d <;> first | (cases e; done) | (cases h <;> cases e <;> first | rfl | simp)
  | cel i => obtain ⟨a, fp, _, rfl⟩ := h; cases e; simp
  | bor l => obtain ⟨a, us, rfl, _⟩ := h; cases e; simp
  | scr l => obtain ⟨a, us, rfl, _⟩ := h; cases e; simp
  | sub i => obtain ⟨a, fp, _, rfl⟩ := h; cases e; simp
def dIsN (neg : Bool) : DR2 := fun x y C Q => match y with
  | .of .non => (match isNonV x with | some r => Q (.of (.bl (cond neg (!r) r))) C | none => False)
  | _ => False
theorem oq_isN : QOp K X (compareOp .Is) (fun x y H Q => y = .non ∧ Q (.bl (decide (x = .non))) H) (dIsN false) := ⟨op_isN, fun W S C σ st v u x y QD Q rx ry q k => by
  unfold dIsN at q
  split at q
  · split at q
    · rename_i r hr
      cases ry
      exact ⟨rfl, k.here st (.bl _) (by rw [isNonV_ok rx hr]; exact q)⟩
    · exact q.elim
  · exact q.elim⟩
theorem oq_notN : QOp K X (compareOp .IsNot) (fun x y H Q => y = .non ∧ Q (.bl (!decide (x = .non))) H) (dIsN true) := ⟨op_notN, fun W S C σ st v u x y QD Q rx ry q k => by
  unfold dIsN at q
  split at q
  · split at q
    · rename_i r hr
      cases ry
      exact ⟨rfl, k.here st (.bl _) (by rw [isNonV_ok rx hr]; exact q)⟩
    · exact q.elim
  · exact q.elim⟩
end
end Z

set_option Elab.async false
set_option linter.all false
set_option maxRecDepth 100000
set_option maxHeartbeats 4000000
/-! ### judgements over trees: lists, tuples, texts, built-ins -/
namespace Z
open PySem PySem.Spec PyProof.Rows L2
def rdL : DV → Cs → Option (List D)
  | .of (.lst l), _ => some l
  | .bor l, _ => some l
  | .cel i, C => (match C[i]? with | some (.lst l) => some l | some (.pl l) => some l | _ => none)
  | _, _ => none
def rdT : DV → Option (List D)
  | .of (.tup l) => some l
  | _ => none
def rdQ (x : DV) (C : Cs) : Option (List D) := match x with | .of (.tup l) => some l | .scr l => some l | x => rdL x C
def rdI (x : DV) (C : Cs) : Option (List D) := match x with | .scr l => some l | x => rdL x C
section
variable {K : PySem.W.Frag} [Gd K] {W : Wd} {S : Sl} {C : Cs} {σ : L2.St} {v : V} {x : DV} {l : List D}
theorem rdL_ok (m : Mem K W C) (r : RepV K W v x) (h : rdL x C = some l) : ∃ a us, v = .ref a ∧ W.H a = some (.lst us) ∧ Reps K W us l := by
  cases x with
  | of d =>
    cases d <;> first | (cases h; done) | skip
    · cases h; cases r; exact ⟨_, _, rfl, by assumption, by assumption⟩
  | bor k => cases h; obtain ⟨a, us, e, h1, _, _, h2⟩ := r; exact ⟨a, us, e, h1, h2⟩
  | scr k => cases h
  | sub k => cases h
  | cel i =>
    obtain ⟨a, fp, h1, rfl⟩ := r
    have h' : (match C[i]? with | some (.lst l) => some l | some (.pl l) => some l | _ => none) = some l := h
    cases hc : C[i]? with
    | none => rw [hc] at h'; cases h'
    | some dc =>
      rw [hc] at h'
      cases dc with
      | lst k => cases h'; obtain ⟨⟨_, us, q1, q2⟩, _⟩ := m.cell i _ a fp hc h1 trivial; exact ⟨a, us, rfl, q1, q2⟩
      | pl k => cases h'; obtain ⟨⟨_, us, q1, q2⟩, _⟩ := m.cell i _ a fp hc h1 trivial; exact ⟨a, us, rfl, q1, q2⟩
      | abs P st => cases h'
      | dead => cases h'
      | emp c => cases h'
      | dob c f kvs => cases h'
      | dct kvs => cases h'
theorem rep_tup {W : Wd} {v : V} {l : List D} (r : Rep K W v (.tup l)) : ∃ a us, v = .ref a ∧ SqT K W.H a us ∧ Reps K W us l := by
  cases r with
  | tup a us ds h n r => exact ⟨a, us, rfl, SqT.of h, r⟩
  | tupK a us ds h r => exact ⟨a, us, rfl, h _, r⟩
theorem rdT_ok (r : RepV K W v x) (h : rdT x = some l) : ∃ a us, v = .ref a ∧ SqT K W.H a us ∧ Reps K W us l := by
  cases x with
  | of d =>
    cases d <;> first | (cases h; done) | skip
    · cases h; exact rep_tup r
  | bor k => cases h
  | scr k => cases h
  | sub k => cases h
  | cel i => cases h
theorem rdQ_ok (m : Mem K W C) (r : RepV K W v x) (h : rdQ x C = some l) : ∃ a us, v = .ref a ∧ (SqL K W.H a us ∨ SqT K W.H a us) ∧ Reps K W us l := by
  unfold rdQ at h
  split at h
  · cases h
    obtain ⟨a, us, e, h1, h2⟩ := rep_tup r
    exact ⟨a, us, e, .inr h1, h2⟩
  · cases h
    obtain ⟨a, us, e, h1, h2⟩ := r
    refine ⟨a, us, e, .inl ?_, h2⟩
    rcases h1 with ⟨h1, _⟩ | h1
    · exact .inl h1
    · exact h1 _
  · obtain ⟨a, us, e, h1, h2⟩ := rdL_ok m r h
    exact ⟨a, us, e, .inl (SqL.of h1), h2⟩
theorem rdI_ok (m : Mem K W C) (r : RepV K W v x) (h : rdI x C = some l) : ∃ a us, v = .ref a ∧ SqL K W.H a us ∧ Reps K W us l := by
  unfold rdI at h
  split at h
  · cases h
    obtain ⟨a, us, e, h1, h2⟩ := r
    refine ⟨a, us, e, ?_, h2⟩
    rcases h1 with ⟨h1, _⟩ | h1
    · exact .inl h1
    · exact h1 _
  · obtain ⟨a, us, e, h1, h2⟩ := rdL_ok m r h
    exact ⟨a, us, e, SqL.of h1, h2⟩
theorem Reps.atI {us : List V} {i : Int} {d : D} (r : Reps K W us l) (h : atI l i = some d) : ∃ v, atI us i = some v ∧ Rep K W v d := by
  unfold L2.atI at h ⊢
  rw [r.len]
  cases e : ixN l.length i with
  | none => rw [e] at h; cases h
  | some j => rw [e] at h; exact r.at h
end
/-! arguments -/
def dNil : DTA := fun _ C Q => Q [] C
def dCons (d : DTE) (r : DTA) : DTA := fun S C Q => d S C fun x C1 => r S C1 fun xs C2 => Q (x :: xs) C2
/-- a value as a tree; a list of one's own is given away -/
def frz (x : DV) (C : Cs) (k : D → Cs → Prop) : Prop := match x with
  | .of d => k d C
  | .cel i => (match C[i]? with | some (.lst l) => k (.lst l) (C.set i .dead) | _ => False)
  | _ => False
def frzs : List DV → Cs → (List D → Cs → Prop) → Prop
  | [], C, k => k [] C
  | x :: xs, C, k => frz x C fun d C1 => frzs xs C1 fun ds C2 => k (d :: ds) C2
section
variable {K : PySem.W.Frag} [Gd K] {X : Cx} {a b c e o : Expr} {es : List Expr} {ta tb tc te to : TE} {da db dc de dO : DTE} {t : TA} {dt : DTA} {pos : Pos} {n : Nat} {W : Wd} {S : Sl} {C : Cs} {σ : L2.St}
theorem qa_nil : QA K X [] 0 tNil dNil := ⟨pa_nil, fun W S C σ st QD Q h k => k [] [] W C rfl .refl st .nil h⟩
theorem qa_cons (ha : QE K X e te de) (hr : QA K X es n t dt) (hs : starEach (e :: es) X.env = (false, eval e X.env) :: starEach es X.env := by rfl) : QA K X (e :: es) (n + 1) (tCons te t) (dCons de dt) :=
  ⟨pa_cons ha.p hr.p hs, fun W S C σ st QD Q h k => ha.r W S C σ st _ _ h fun v x W1 C1 e1 s1 r1 h1 => hr.r W1 S C1 σ s1 _ _ h1 fun vs xs W2 C2 hl e2 s2 r2 h2 =>
    k (v :: vs) (x :: xs) W2 C2 (congrArg (· + 1) hl) (e1.trans e2) s2 (.cons _ _ _ _ (r1.mono s1.m e2) r2) h2⟩
theorem frz_ok {v : V} {x : DV} {k : D → Cs → Prop} (st : Sta K W S C σ) (r : RepV K W v x) (h : frz x C k) : ∃ d W' C', Ext W W' ∧ W'.H = W.H ∧ Sta K W' S C' σ ∧ Rep K W' v d ∧ k d C' := by
  unfold frz at h
  split at h
  · exact ⟨_, W, C, .refl, rfl, st, r, h⟩
  · rename_i i
    split at h
    · rename_i l hl
      obtain ⟨a, W', h1, h2, h3, h4, h5⟩ := st.m.freeze hl
      obtain ⟨b, fp, r1, rfl⟩ := r
      rw [h1] at r1
      cases r1
      exact ⟨_, W', _, h3, h2, ⟨h4, st.s.mono st.m h3, Gd.ext st.g h3⟩, h5, h⟩
    · exact h.elim
  · exact h.elim
theorem frzs_ok : ∀ {vs : List V} {xs : List DV} {W : Wd} {C : Cs} {k : List D → Cs → Prop}, Sta K W S C σ → RepVs K W vs xs → frzs xs C k → ∃ ds W' C', Ext W W' ∧ W'.H = W.H ∧ Sta K W' S C' σ ∧ Reps K W' vs ds ∧ k ds C'
  | _, _, W, C, k, st, .nil, h => ⟨[], W, C, .refl, rfl, st, .nil, h⟩
  | _, _, W, C, k, st, .cons v x vs xs r t, h => by
    obtain ⟨d, W1, C1, e1, h1, s1, r1, q1⟩ := frz_ok st r h
    obtain ⟨ds, W2, C2, e2, h2, s2, r2, q2⟩ := frzs_ok s1 (t.mono st.m e1) q1
    exact ⟨d :: ds, W2, C2, e1.trans e2, h2.trans h1, s2, .cons _ _ _ _ (Rep.mono (e2.pers s1.m.wrws) r1) r2, q2⟩
def dTup (d : DTA) : DTE := fun S C Q => d S C fun xs C1 => frzs xs C1 fun ds C2 => Q (.of (.tup ds)) C2
def dLst (d : DTA) : DTE := fun S C Q => d S C fun xs C1 => frzs xs C1 fun ds C2 => Q (.cel C2.length) (C2 ++ [.lst ds])
theorem KV.newT {QD : DV → Cs → Prop} {Q : VK} {W1 : Wd} {C1 : Cs} {us : List V} {ds : List D} {p : Addr} (k : KV K W S σ QD Q) (e : Ext W W1) (s : Sta K W1 S C1 σ) (r : Reps K W1 us ds) (hp : W1.H p = none) (q : QD (.of (.tup ds)) C1) : Q (.ref p) (L2.upd W1.H p (.tup us)) :=
  k (.ref p) (.of (.tup ds)) (W1.new p (.tup us)) C1 (e.trans (Ext.new hp)) (s.new hp) (Rep.tup (W := W1.new p (.tup us)) p us ds upd_same (s.m.fresh hp).1 (Reps.mono ((Ext.new hp).pers s.m.wrws) r)) q
theorem KV.newL {QD : DV → Cs → Prop} {Q : VK} {W1 : Wd} {C1 : Cs} {us : List V} {ds : List D} {p : Addr} (k : KV K W S σ QD Q) (e : Ext W W1) (s : Sta K W1 S C1 σ) (r : Reps K W1 us ds) (hp : W1.H p = none) (q : QD (.cel C1.length) (C1 ++ [.lst ds])) : Q (.ref p) (L2.upd W1.H p (.lst us)) :=
  k (.ref p) _ (W1.cell p (.lst us)) _ (e.trans (Ext.cell hp)) (s.newlist hp r) (RepV.newcell s.m) q
theorem qe_tup {x1} (h : QA K X es n t dt) (hn : n ≤ 1000 := by decide) : QE K X (.Tuple es x1 pos) (tTup t) (dTup dt) := ⟨pe_tup h.p, fun W S C σ st QD Q q k =>
  h.r W S C σ st _ _ q fun vs xs W1 C1 hl e1 s1 r1 q1 => by
    refine ⟨by rw [hl, ss]; omega, fun p hp => ?_⟩
    obtain ⟨ds, W2, C2, e2, h2, s2, r2, q2⟩ := frzs_ok s1 r1 q1
    rw [← h2] at hp ⊢
    exact KV.newT k (e1.trans e2) s2 r2 hp q2⟩
theorem qe_lst (h : QA K X es n t dt) (hn : n ≤ 1000 := by decide) : QE K X (.List es pos) (tLst t) (dLst dt) := ⟨pe_lst h.p, fun W S C σ st QD Q q k =>
  h.r W S C σ st _ _ q fun vs xs W1 C1 hl e1 s1 r1 q1 => by
    refine ⟨by rw [hl, ss]; omega, fun p hp => ?_⟩
    obtain ⟨ds, W2, C2, e2, h2, s2, r2, q2⟩ := frzs_ok s1 r1 q1
    rw [← h2] at hp ⊢
    exact KV.newL k (e1.trans e2) s2 r2 hp q2⟩
/-! subscripts -/
def dIxL : DR2 := fun x y C Q => match rdI x C, y with | some l, .of (.int i) => ∃ d, atI l i = some d ∧ Q (.of d) C | _, _ => False
def dIxT : DR2 := fun x y C Q => match rdT x, y with | some l, .of (.int i) => ∃ d, atI l i = some d ∧ Q (.of d) C | _, _ => False
def dIxS : DR2 := fun x y C Q => match x, y with | .of (.str l), .of (.int i) => Z16 l.length ∧ ∃ c, atI l i = some c ∧ Q (.of (.str [c])) C | _, _ => False
theorem xq_list (hK : X.K = K) : QIx K X (rIxL K) dIxL := ⟨ix_listG hK, fun W S C σ st v u x y QD Q rx ry q k => by
  unfold dIxL at q
  split at q
  · rename_i l i hl
    obtain ⟨a, us, rfl, h1, h2⟩ := rdI_ok st.m rx hl
    cases ry
    obtain ⟨d, hd, q⟩ := q
    obtain ⟨w, hw, rw'⟩ := h2.atI hd
    exact ⟨a, us, i, w, rfl, rfl, h1, hw, k.here st rw' q⟩
  · exact q.elim⟩
theorem xq_tup (hK : X.K = K) : QIx K X (rIxT K) dIxT := ⟨ix_tupG hK, fun W S C σ st v u x y QD Q rx ry q k => by
  unfold dIxT at q
  split at q
  · rename_i l i hl
    obtain ⟨a, us, rfl, h1, h2⟩ := rdT_ok rx hl
    cases ry
    obtain ⟨d, hd, q⟩ := q
    obtain ⟨w, hw, rw'⟩ := h2.atI hd
    exact ⟨a, us, i, w, rfl, rfl, h1, hw, k.here st rw' q⟩
  · exact q.elim⟩
theorem xq_str : QIx K X rIxS dIxS := ⟨ix_str, fun W S C σ st v u x y QD Q rx ry q k => by
  unfold dIxS at q
  split at q
  · obtain ⟨z, rfl, rfl⟩ := rep_str rx
    cases ry
    obtain ⟨h1, c, hc, q⟩ := q
    exact ⟨z, _, c, rfl, rfl, line_of (by rw [← cl_len]; exact h1), hc, k.here st (rep_of rfl) q⟩
  · exact q.elim⟩
/-! slices -/
def cutD {α : Type} (l : List α) (lo hi : Option Int) : List α := (l.drop (HT.sIx l.length 0 lo)).take (HT.sIx l.length l.length hi - HT.sIx l.length 0 lo)
abbrev DSl := DV → Option Int → Option Int → Cs → (DV → Cs → Prop) → Prop
def RefSl (K : PySem.W.Frag) [Gd K] (r : V → Option Int → Option Int → Hp → VK → Prop) (d : DSl) : Prop := ∀ W S C σ, Sta K W S C σ → ∀ v x lo hi QD Q, RepV K W v x → d x lo hi C QD → KV K W S σ QD Q → r v lo hi W.H Q
structure QSl (K : PySem.W.Frag) [Gd K] (X : Cx) (r : V → Option Int → Option Int → Hp → VK → Prop) (d : DSl) : Prop where
  p : SlR X r
  r : RefSl K r d
def dNone : DTO := fun _ C Q => Q none C
def dPart (d : DTE) : DTO := fun S C Q => d S C fun x C1 => match x with | .of (.int i) => Q (some i) C1 | _ => False
theorem qo_none : QO K X none tNoPart dNone := ⟨po_none, fun W S C σ st QD Q h k => k none W C .refl st h⟩
theorem qo_some (h : QE K X e te de) : QO K X (some e) (tPart te) (dPart de) := ⟨po_some h.p, fun W S C σ st QD Q q k => h.r W S C σ st _ _ q fun v x W1 C1 e1 s1 r1 q1 => by
  split at q1
  · cases r1; exact ⟨_, rfl, k _ W1 C1 e1 s1 q1⟩
  · exact q1.elim⟩
def dSl (r : DSl) (d : DTE) (lo hi : DTO) : DTE := fun S C Q => d S C fun x C1 => lo S C1 fun i C2 => hi S C2 fun j C3 => r x i j C3 Q
theorem qe_slice {lo hi : Option Expr} {tl th : TO} {dl dh : DTO} {r : V → Option Int → Option Int → Hp → VK → Prop} {dr : DSl} {p2 : Pos} (hr : QSl K X r dr) (he : QE K X e te de) (hl : QO K X lo tl dl) (hu : QO K X hi th dh) : QE K X (.Subscript e (.Slice lo hi none p2) pos) (tSl r te tl th) (dSl dr de dl dh) :=
  ⟨pe_slice hr.p he.p hl.p hu.p, fun W S C σ st QD Q q k => he.r W S C σ st _ _ q fun v x W1 C1 e1 s1 r1 q1 => hl.r W1 S C1 σ s1 _ _ q1 fun i W2 C2 e2 s2 q2 => hu.r W2 S C2 σ s2 _ _ q2 fun j W3 C3 e3 s3 q3 =>
    hr.r W3 S C3 σ s3 v x i j _ _ ((r1.mono s1.m e2).mono s2.m e3) q3 (KV.ext k ((e1.trans e2).trans e3))⟩
def dSlS : DSl := fun x i j C Q => match x with | .of (.str l) => Z16 l.length ∧ Q (.of (.str (cutD l i j))) C | _ => False
def dSlL : DSl := fun x i j C Q => match rdL x C with | some l => Q (.cel C.length) (C ++ [.lst (cutD l i j)]) | none => False
def dSlT : DSl := fun x i j C Q => match rdT x with | some l => Q (.of (.tup (cutD l i j))) C | none => False
theorem Reps.cut {us : List V} {l : List D} (r : Reps K W us l) (i j : Option Int) : Reps K W (cutV us i j) (cutD l i j) := by
  unfold cutV cutD
  rw [r.len]
  exact (r.drop _).take _
theorem lq_str : QSl K X rSlS dSlS := ⟨sl_str, fun W S C σ st v x lo hi QD Q rx q k => by
  unfold dSlS at q
  split at q
  · obtain ⟨z, rfl, rfl⟩ := rep_str rx
    refine ⟨z, rfl, line_of (by rw [← cl_len]; exact q.1), k.here st (rep_of ?_) q.2⟩
    show ((cl z).drop _).take _ = _
    unfold cutD
    rw [cl_len]
  · exact q.elim⟩
theorem lq_list (hK : X.K = K) : QSl K X (rSlL K) dSlL := ⟨sl_listG hK, fun W S C σ st v x lo hi QD Q rx q k => by
  unfold dSlL at q
  split at q
  · rename_i l hl
    obtain ⟨a, us, rfl, h1, h2⟩ := rdL_ok st.m rx hl
    exact ⟨a, us, rfl, SqL.of h1, fun p hp => KV.newL k .refl st (h2.cut lo hi) hp q⟩
  · exact q.elim⟩
theorem lq_tup (hK : X.K = K) : QSl K X (rSlA K) dSlT := ⟨sl_tupAG hK, fun W S C σ st v x lo hi QD Q rx q k => by
  unfold dSlT at q
  split at q
  · rename_i l hl
    cases x <;> first | (cases hl; done) | skip
    rename_i d
    cases d <;> first | (cases hl; done) | skip
    cases hl
    have key : ∀ a us, SqT K W.H a us → Reps K W us l → RepV K W (.ref a) (.of (.tup l)) → rSlA K (.ref a) lo hi W.H Q := fun a us h1 h2 rr => by
      refine ⟨a, us, rfl, h1, fun e => ?_, fun _ p hp => KV.newT k .refl st (h2.cut lo hi) hp q⟩
      have e2 : cutD l lo hi = l := by
        unfold cutD
        rw [← h2.len, e.1, e.2]
        simp [h2.len]
      rw [e2] at q
      exact k.here st rr q
    cases rx with
    | tup a us ds h n r => exact key a us (SqT.of h) r (.tup a us _ h n r)
    | tupK a us ds h r => exact key a us (h _) r (.tupK a us _ h r)
  · exact q.elim⟩
def dRevL (d : DTE) : DTE := fun S C Q => d S C fun x C1 => match rdL x C1 with | some l => Q (.cel C1.length) (C1 ++ [.lst l.reverse]) | none => False
def dRevS (d : DTE) : DTE := fun S C Q => d S C fun x C1 => match x with | .of (.str l) => Z16 l.length ∧ Q (.of (.str l.reverse)) C1 | _ => False
theorem qe_revS {k : Nat} {p1 p2 p3 : Pos} (he : QE K X e te de) : QE K X (.Subscript e (.Slice none none (some (.UnaryOp .USub (.Constant (.int 1) k p1) p2)) p3) pos) (tRevS te) (dRevS de) := ⟨pe_revS he.p, fun W S C σ st QD Q q k => he.r W S C σ st _ _ q fun v x W1 C1 e1 s1 r1 q1 => by
  split at q1
  · obtain ⟨z, rfl, rfl⟩ := rep_str r1
    exact ⟨z, rfl, line_of (by rw [← cl_len]; exact q1.1), fun y hy => k.at e1 s1 (rep_of hy) q1.2⟩
  · exact q1.elim⟩
/-! + of lists and tuples, * -/
def dCat : DR2 := fun x y C Q => match rdL x C, rdL y C with | some a, some b => Z16 (a.length + b.length) ∧ Q (.cel C.length) (C ++ [.lst (a ++ b)]) | _, _ => False
def dCatT : DR2 := fun x y C Q => match x, y with | .of (.tup a), .of (.tup b) => Z16 (a.length + b.length) ∧ Q (.of (.tup (a ++ b))) C | _, _ => False
def dRep : DR2 := fun x y C Q => match rdL x C, y with | some a, .of (.int n) => ((-(2 ^ 63) ≤ n ∧ n < 2 ^ 63) ∧ Z16 (a.length * n.toNat)) ∧ Q (.cel C.length) (C ++ [.lst (List.replicate n.toNat a).flatten]) | _, _ => False
theorem oq_cat : QOp K X (binaryOp .Add) rCat dCat := ⟨op_cat, fun W S C σ st v u x y QD Q rx ry q k => by
  unfold dCat at q
  split at q
  · rename_i a b ha hb
    obtain ⟨p, us, rfl, h1, h2⟩ := rdL_ok st.m rx ha
    obtain ⟨p', us', rfl, h3, h4⟩ := rdL_ok st.m ry hb
    exact ⟨p, p', us, us', rfl, rfl, h1, h3, line_of (by rw [h2.len, h4.len]; exact q.1), fun r hr => KV.newL k .refl st (h2.app h4) hr q.2⟩
  · exact q.elim⟩
theorem Reps.flat {us : List V} {l : List D} (h : Reps K W us l) : ∀ n, Reps K W (List.replicate n us).flatten (List.replicate n l).flatten
  | 0 => .nil
  | n + 1 => by rw [List.replicate_succ, List.replicate_succ, List.flatten_cons, List.flatten_cons]; exact h.app (Reps.flat h n)
theorem oq_rep : QOp K X (binaryOp .Mult) rRep dRep := ⟨op_rep, fun W S C σ st v u x y QD Q rx ry q k => by
  unfold dRep at q
  split at q
  · rename_i a n ha
    obtain ⟨p, us, rfl, h1, h2⟩ := rdL_ok st.m rx ha
    cases ry
    obtain ⟨⟨⟨q1, q2⟩, q3⟩, q4⟩ := q
    exact ⟨p, n, us, rfl, rfl, h1, q1, q2, line_of (by rw [h2.len]; exact q3), fun r hr => KV.newL k .refl st (h2.flat _) hr q4⟩
  · exact q.elim⟩
theorem refR_catT : RefR K (rCatA K) dCatT := fun W S C σ st v u x y QD Q rx ry q k => by
  unfold dCatT at q
  split at q
  · rename_i a b
    have key : ∀ p us p' us', SqT K W.H p us → Reps K W us a → RepV K W (.ref p) (.of (.tup a)) → SqT K W.H p' us' → Reps K W us' b → RepV K W (.ref p') (.of (.tup b)) → rCatA K (.ref p) (.ref p') W.H Q := fun p us p' us' h1 h2 h3 h4 h5 h6 => by
      refine ⟨p, p', us, us', rfl, rfl, h1, h4, line_of (by rw [h2.len, h5.len]; exact q.1), fun e => ?_, fun _ e => ?_, fun _ _ r hr => KV.newT k .refl st (h2.app h5) hr q.2⟩
      · subst e
        cases h2
        exact k.here st h6 q.2
      · subst e
        cases h5
        have q2 := q.2
        rw [List.append_nil] at q2
        exact k.here st h3 q2
    cases rx with
    | tup p us ds h n r =>
      cases ry with
      | tup p' us' ds' h' n' r' => exact key p us p' us' (SqT.of h) r (.tup p us _ h n r) (SqT.of h') r' (.tup p' us' _ h' n' r')
      | tupK p' us' ds' h' r' => exact key p us p' us' (SqT.of h) r (.tup p us _ h n r) (h' _) r' (.tupK p' us' _ h' r')
    | tupK p us ds h r =>
      cases ry with
      | tup p' us' ds' h' n' r' => exact key p us p' us' (h _) r (.tupK p us _ h r) (SqT.of h') r' (.tup p' us' _ h' n' r')
      | tupK p' us' ds' h' r' => exact key p us p' us' (h _) r (.tupK p us _ h r) (h' _) r' (.tupK p' us' _ h' r')
  · exact q.elim
theorem oq_catA (hK : X.K = K) : QOp K X (binaryOp .Add) (rCatA K) dCatT := ⟨op_catAG hK, refR_catT⟩
/-! x in l, of flat things -/
def flatD : D → Bool
  | .non => true
  | .bl _ => true
  | .int _ => true
  | .str _ => true
  | _ => false
def eqF : D → D → Bool
  | .non, .non => true
  | .bl a, .bl b => a == b
  | .bl a, .int b => (if a then 1 else 0) == b
  | .int a, .bl b => a == (if b then 1 else 0)
  | .int a, .int b => a == b
  | .str a, .str b => a == b
  | _, _ => false
theorem flat_rep {v : V} {d : D} (r : Rep K W v d) (h : flatD d = true) : flatV v = true := by
  cases r <;> first | rfl | (cases h; done)
theorem str_beq (z w : Str) : (z == w) = (cl z == cl w) := by
  by_cases h : z = w
  · subst h; simp
  · have h2 : cl z ≠ cl w := fun e => h (str_eq.mpr e)
    rw [beq_eq_false_iff_ne.mpr h, beq_eq_false_iff_ne.mpr h2]
theorem eqF_ok {v u : V} {a b : D} (ra : Rep K W v a) (rb : Rep K W u b) (ha : flatD a = true) (hb : flatD b = true) : eqV v u = eqF a b := by
  cases ra <;> first | (cases ha; done) | skip
  all_goals cases rb <;> first | (cases hb; done) | rfl | skip
  exact str_beq _ _
theorem flats_rep : ∀ {us : List V} {l : List D}, Reps K W us l → l.all flatD = true → us.all flatV = true
  | _, _, .nil, _ => rfl
  | _, _, .cons v d vs ds h t, q => by
    rw [List.all_cons, Bool.and_eq_true] at q ⊢
    exact ⟨flat_rep h q.1, flats_rep t q.2⟩
def inF (x : D) (l : List D) : Bool := l.any fun y => eqF y x
theorem inF_ok {v : V} {d : D} (r : Rep K W v d) (hd : flatD d = true) : ∀ {us : List V} {l : List D}, Reps K W us l → l.all flatD = true → inV v us = inF d l
  | _, _, .nil, _ => rfl
  | _, _, .cons u e vs ds h t, q => by
    rw [List.all_cons, Bool.and_eq_true] at q
    have ih := inF_ok r hd t q.2
    unfold inV inF at ih ⊢
    rw [List.any_cons, List.any_cons, ih, eqF_ok h r q.1 hd]
def dIn (neg : Bool) : DR2 := fun x y C Q => match x, rdQ y C with | .of d, some l => (flatD d = true ∧ l.all flatD = true) ∧ Q (.of (.bl (cond neg (!inF d l) (inF d l)))) C | _, _ => False
theorem refR_in {neg : Bool} : RefR K (rIn K neg) (dIn neg) := fun W S C σ st v u x y QD Q rx ry q k => by
  unfold dIn at q
  split at q
  · rename_i d l hl
    obtain ⟨a, us, rfl, h1, h2⟩ := rdQ_ok st.m ry hl
    obtain ⟨⟨q1, q2⟩, q3⟩ := q
    refine ⟨a, us, rfl, h1, flat_rep rx q1, flats_rep h2 q2, k.here st (.bl _) ?_⟩
    rw [inF_ok rx q1 h2 q2]
    cases neg <;> exact q3
  · exact q.elim
theorem oq_in_seq (hK : X.K = K) : QOp K X (compareOp .In) (rIn K false) (dIn false) := ⟨op_in_seqG hK, refR_in⟩
theorem oq_notIn_seq (hK : X.K = K) : QOp K X (compareOp .NotIn) (rIn K true) (dIn true) := ⟨op_notIn_seqG hK, refR_in⟩
/-! truth -/
def dTru (x : DV) (C : Cs) (k : Bool → Prop) : Prop := match x with
  | .of .non => k false
  | .of (.bl b) => k b
  | .of (.int i) => k (i != 0)
  | .of (.str l) => Z16 l.length ∧ k (!l.isEmpty)
  | x => (match rdQ x C with | some l => k (!l.isEmpty) | none => False)
theorem isE {us : List V} {l : List D} (h : Reps K W us l) : us.isEmpty = l.isEmpty := by cases h <;> rfl
theorem dTru_ok {v : V} {x : DV} {k : Bool → Prop} (m : Mem K W C) (r : RepV K W v x) (h : dTru x C k) : ∃ b, TruV K v W.H b ∧ k b := by
  unfold dTru at h
  split at h
  · cases r; exact ⟨false, rfl, h⟩
  · cases r; exact ⟨_, rfl, h⟩
  · cases r; exact ⟨_, rfl, h⟩
  · obtain ⟨z, rfl, rfl⟩ := rep_str r
    refine ⟨_, ⟨line_of (by rw [← cl_len]; exact h.1), rfl⟩, ?_⟩
    have e : ((z.length : Int) != 0) = !(cl z).isEmpty := by
      rw [← cl_len]
      cases cl z with
      | nil => rfl
      | cons a b => rw [List.isEmpty_cons]; simp; omega
    rw [e]; exact h.2
  · split at h
    · rename_i l hl
      obtain ⟨a, us, rfl, h1, h2⟩ := rdQ_ok m r hl
      refine ⟨_, ?_, h⟩
      rcases h1 with h1 | h1
      · exact .inl ⟨us, h1, by rw [isE h2]⟩
      · exact .inr (.inl ⟨us, h1, by rw [isE h2]⟩)
    · exact h.elim
def dOrT (a b : DTE) : DTE := fun S C Q => a S C fun x C1 => dTru x C1 fun k => if k = true then Q x C1 else b S C1 Q
def dAndT (a b : DTE) : DTE := fun S C Q => a S C fun x C1 => dTru x C1 fun k => if k = true then b S C1 Q else Q x C1
def dNotT (a : DTE) : DTE := fun S C Q => a S C fun x C1 => dTru x C1 fun k => Q (.of (.bl (!k))) C1
def dTruT (a : DTE) : DTT := fun S C Q => a S C fun x C1 => dTru x C1 fun k => Q k C1
variable {rest : List Expr}
theorem qe_orT (hK : X.K = K) (ha : QE K X a ta da) (hb : QE K X (.BoolOp .Or (b :: rest) pos) tb db) : QE K X (.BoolOp .Or (a :: b :: rest) pos) (tOrT K ta tb) (dOrT da db) := ⟨by subst hK; exact pe_orT ha.p hb.p, fun W S C σ st QD Q q k => ha.r W S C σ st _ _ q fun v x W1 C1 e1 s1 r1 q1 => by
  obtain ⟨c, h1, h2⟩ := dTru_ok s1.m r1 q1
  refine ⟨c, h1, ?_⟩
  cases c with
  | true => rw [if_pos rfl] at h2 ⊢; exact k v x W1 C1 e1 s1 r1 h2
  | false => rw [if_neg (by simp)] at h2 ⊢; exact hb.r W1 S C1 σ s1 _ _ h2 (KV.ext k e1)⟩
theorem qe_andT (hK : X.K = K) (ha : QE K X a ta da) (hb : QE K X (.BoolOp .And (b :: rest) pos) tb db) : QE K X (.BoolOp .And (a :: b :: rest) pos) (tAndT K ta tb) (dAndT da db) := ⟨by subst hK; exact pe_andT ha.p hb.p, fun W S C σ st QD Q q k => ha.r W S C σ st _ _ q fun v x W1 C1 e1 s1 r1 q1 => by
  obtain ⟨c, h1, h2⟩ := dTru_ok s1.m r1 q1
  refine ⟨c, h1, ?_⟩
  cases c with
  | true => rw [if_pos rfl] at h2 ⊢; exact hb.r W1 S C1 σ s1 _ _ h2 (KV.ext k e1)
  | false => rw [if_neg (by simp)] at h2 ⊢; exact k v x W1 C1 e1 s1 r1 h2⟩
theorem qe_notT (hK : X.K = K) (ha : QE K X a ta da) : QE K X (.UnaryOp .Not a pos) (tNotT K ta) (dNotT da) := ⟨by subst hK; exact pe_notT ha.p, fun W S C σ st QD Q q k => ha.r W S C σ st _ _ q fun v x W1 C1 e1 s1 r1 q1 => by
  obtain ⟨c, h1, h2⟩ := dTru_ok s1.m r1 q1
  exact ⟨c, h1, k.at e1 s1 (.bl _) h2⟩⟩
theorem qt_truth (hK : X.K = K) (ha : QE K X a ta da) (he : ∀ whole, isTrue a X.env whole = (do let v ← whole; standAt a.pos; holding [v] (truthy v)) := by intro _; rfl) : QT K X a (fun σ H Q => ta σ H fun x H' => ∃ k, TruV K x H' k ∧ Q k H') (dTruT da) :=
  ⟨by subst hK; exact pt_truth ha.p he, fun W S C σ st QD Q q k => ha.r W S C σ st _ _ q fun v x W1 C1 e1 s1 r1 q1 => by
  obtain ⟨c, h1, h2⟩ := dTru_ok s1.m r1 q1
  exact ⟨c, h1, k c W1 C1 e1 s1 h2⟩⟩
/-! built-ins -/
def dCall (r : DRA) (d : DTA) : DTE := fun S C Q => d S C fun xs C1 => r xs C1 Q
theorem refE_CB {r : List V → Hp → VK → Prop} {dr : DRA} (hr : RefC K n r dr) (h : RefA K n t dt) : RefE K (tCB r t) (dCall dr dt) := fun W S C σ st QD Q q k =>
  h W S C σ st _ _ q fun vs xs W1 C1 hl e1 s1 r1 q1 => hr W1 S C1 σ s1 vs xs _ _ hl r1 q1 (KV.ext k e1)
theorem qe_callB {id : String} {x : Str} {p : Pos} {r : List V → Hp → VK → Prop} {dr : DRA} (hc : QC K X (.builtin id) n r dr) (hg : Gl X x) (hm : X.mg x = none) (hv : bootBuiltins x = some (.builtin id)) (ha : QA K X (e :: es) n t dt) (hn : x ≠ "__name__" := by decide) (hdb : (x == ("__debug__" : Str)) = false := by decide)
    (he : starEach (e :: es) X.env = (false, eval e X.env) :: starEach es X.env := by rfl) (hpl : (backTo pos (starEach es X.env)).any (·.1) = false := by rfl) : QE K X (.Call (.Name x p) (e :: es) [] pos) (tCB r t) (dCall dr dt) := ⟨pe_callB hc.p hg hm hv ha.p hn hdb he hpl, refE_CB hc.r ha.r⟩
theorem qe_callTy {T : String} {x : Str} {p : Pos} {r : List V → Hp → VK → Prop} {dr : DRA} (hc : QC K X (.type T) n r dr) (hg : Gl X x) (hm : X.mg x = none) (hv : bootBuiltins x = some (.type T)) (ha : QA K X (e :: es) n t dt) (hn : x ≠ "__name__" := by decide) (hdb : (x == ("__debug__" : Str)) = false := by decide)
    (he : starEach (e :: es) X.env = (false, eval e X.env) :: starEach es X.env := by rfl) (hpl : (backTo pos (starEach es X.env)).any (·.1) = false := by rfl) : QE K X (.Call (.Name x p) (e :: es) [] pos) (tCB r t) (dCall dr dt) := ⟨pe_callTy hc.p hg hm hv ha.p hn hdb he hpl, refE_CB hc.r ha.r⟩
theorem repVs1 {vs : List V} {x : DV} (h : RepVs K W vs [x]) : ∃ v, vs = [v] ∧ RepV K W v x := by
  cases h with
  | cons v x vs xs h t => cases t; exact ⟨v, rfl, h⟩
theorem repVs2 {vs : List V} {x y : DV} (h : RepVs K W vs [x, y]) : ∃ v u, vs = [v, u] ∧ RepV K W v x ∧ RepV K W u y := by
  cases h with
  | cons v x vs xs h t => obtain ⟨u, rfl, q⟩ := repVs1 t; exact ⟨v, u, rfl, h, q⟩
def dLenS : DRA := fun xs C Q => match xs with | [.of (.str l)] => Z16 l.length ∧ Q (.of (.int l.length)) C | _ => False
def dLenQ : DRA := fun xs C Q => match xs with | [x] => (match rdQ x C with | some l => Q (.of (.int l.length)) C | none => False) | _ => False
theorem cq_len_str : QC K X (.builtin "len") 1 (fun xs H Q => ∃ z, xs = [.str z] ∧ z.length ≤ sizeLine ∧ Q (.int z.length) H) dLenS := ⟨call_len_str, fun W S C σ st vs xs QD Q hlen r q k => by
  unfold dLenS at q
  split at q
  · obtain ⟨v, rfl, r0⟩ := repVs1 r
    obtain ⟨z, rfl, rfl⟩ := rep_str r0
    refine ⟨z, rfl, line_of (by rw [← cl_len]; exact q.1), k.here st (.int _) ?_⟩
    rw [← cl_len]; exact q.2
  · exact q.elim⟩
theorem cq_len_seq (hK : X.K = K) : QC K X (.builtin "len") 1 (fun xs H Q => ∃ p ys, xs = [.ref p] ∧ (SqL K H p ys ∨ SqT K H p ys) ∧ Q (.int ys.length) H) dLenQ := ⟨call_len_seqG hK, fun W S C σ st vs xs QD Q hlen r q k => by
  unfold dLenQ at q
  split at q
  · split at q
    · rename_i l hl
      obtain ⟨v, rfl, r0⟩ := repVs1 r
      obtain ⟨a, us, rfl, h1, h2⟩ := rdQ_ok st.m r0 hl
      refine ⟨a, us, rfl, h1, k.here st (.int _) ?_⟩
      rw [h2.len]; exact q
    · exact q.elim
  · exact q.elim⟩
def dAbs : DRA := fun xs C Q => match xs with | [.of (.int i)] => Q (.of (.int (if i < 0 then -i else i))) C | _ => False
theorem cq_abs : QC K X (.builtin "abs") 1 (fun xs H Q => ∃ i, xs = [.int i] ∧ Q (.int (if i < 0 then -i else i)) H) dAbs := ⟨call_abs, fun W S C σ st vs xs QD Q hlen r q k => by
  unfold dAbs at q
  split at q
  · obtain ⟨v, rfl, r0⟩ := repVs1 r
    cases r0
    exact ⟨_, rfl, k.here st (.int _) q⟩
  · exact q.elim⟩
def dMin : DRA := fun xs C Q => match xs with | [.of (.int i), .of (.int j)] => Q (.of (.int (if j < i then j else i))) C | _ => False
def dMax : DRA := fun xs C Q => match xs with | [.of (.int i), .of (.int j)] => Q (.of (.int (if j > i then j else i))) C | _ => False
theorem cq_min2 (hc : X.calm = true) : QC K X (.builtin "min") 2 (fun xs H Q => ∃ i j, xs = [.int i, .int j] ∧ Q (.int (if j < i then j else i)) H) dMin := ⟨call_min2 hc, fun W S C σ st vs xs QD Q hlen r q k => by
  unfold dMin at q
  split at q
  · obtain ⟨v, u, rfl, r1, r2⟩ := repVs2 r
    cases r1; cases r2
    exact ⟨_, _, rfl, k.here st (.int _) q⟩
  · exact q.elim⟩
theorem cq_max2 (hc : X.calm = true) : QC K X (.builtin "max") 2 (fun xs H Q => ∃ i j, xs = [.int i, .int j] ∧ Q (.int (if j > i then j else i)) H) dMax := ⟨call_max2 hc, fun W S C σ st vs xs QD Q hlen r q k => by
  unfold dMax at q
  split at q
  · obtain ⟨v, u, rfl, r1, r2⟩ := repVs2 r
    cases r1; cases r2
    exact ⟨_, _, rfl, k.here st (.int _) q⟩
  · exact q.elim⟩
def dInt : DRA := fun xs C Q => match xs with | [.of (.int i)] => Q (.of (.int i)) C | [.of (.bl b)] => Q (.of (.int (if b then 1 else 0))) C | _ => False
theorem cq_int1 : QC K X (.type "int") 1 (fun xs H Q => (∃ i, xs = [.int i] ∧ Q (.int i) H) ∨ ∃ k, xs = [.bl k] ∧ Q (.int (if k then 1 else 0)) H) dInt := ⟨call_int1, fun W S C σ st vs xs QD Q hlen r q k => by
  unfold dInt at q
  split at q
  · obtain ⟨v, rfl, r0⟩ := repVs1 r
    cases r0
    exact .inl ⟨_, rfl, k.here st (.int _) q⟩
  · obtain ⟨v, rfl, r0⟩ := repVs1 r
    cases r0
    exact .inr ⟨_, rfl, k.here st (.int _) q⟩
  · exact q.elim⟩
/-- the signs of a whole number -/
def figs (i : Int) : List Nat := cl (toString i : Str)
def dStrI : DRA := fun xs C Q => match xs with | [.of (.int i)] => i.natAbs.log2 < 1920 ∧ Q (.of (.str (figs i))) C | _ => False
theorem cq_str_int : QC K X (.type "str") 1 (fun xs H Q => ∃ i, xs = [.int i] ∧ i.natAbs.log2 < 1920 ∧ Q (.str (toString i)) H) dStrI := ⟨call_str_int, fun W S C σ st vs xs QD Q hlen r q k => by
  unfold dStrI at q
  split at q
  · obtain ⟨v, rfl, r0⟩ := repVs1 r
    cases r0
    exact ⟨_, rfl, q.1, k.here st (rep_of rfl) q.2⟩
  · exact q.elim⟩
def dListOf : DRA := fun xs C Q => match xs with | [x] => (match rdQ x C with | some l => Q (.cel C.length) (C ++ [.lst l]) | none => False) | _ => False
theorem cq_list_of (hK : X.K = K) : QC K X (.type "list") 1 (fun xs H Q => ∃ p ys, xs = [.ref p] ∧ (SqL K H p ys ∨ SqT K H p ys) ∧ ∀ l, H l = none → Q (.ref l) (L2.upd H l (.lst ys))) dListOf := ⟨call_list_ofG hK, fun W S C σ st vs xs QD Q hlen r q k => by
  unfold dListOf at q
  split at q
  · split at q
    · rename_i l hl
      obtain ⟨v, rfl, r0⟩ := repVs1 r
      obtain ⟨a, us, rfl, h1, h2⟩ := rdQ_ok st.m r0 hl
      exact ⟨a, us, rfl, h1, fun p hp => KV.newL k .refl st h2 hp q⟩
    · exact q.elim
  · exact q.elim⟩
def allB : List D → Option (List Bool)
  | [] => some []
  | .bl b :: r => (allB r).map (b :: ·)
  | _ => none
theorem allB_ok : ∀ {us : List V} {l : List D} {bs : List Bool}, Reps K W us l → allB l = some bs → us = bs.map V.bl
  | _, _, bs, .nil, h => by cases h; rfl
  | _, _, bs, .cons v d vs ds r t, h => by
    cases d <;> first | (cases h; done) | skip
    rename_i b
    have h' : (allB ds).map (b :: ·) = some bs := h
    cases e : allB ds with
    | none => rw [e] at h'; cases h'
    | some cs =>
      rw [e] at h'; cases h'
      cases r
      rw [List.map_cons, allB_ok t e]
theorem allB_map (l : List Bool) : allB (l.map D.bl) = some l := by
  induction l with
  | nil => rfl
  | cons b r ih => show (allB (r.map D.bl)).map (b :: ·) = _; rw [ih]; rfl
def dAll : DRA := fun xs C Q => match xs with | [x] => (match rdL x C with | some l => ∃ bs, allB l = some bs ∧ Q (.of (.bl (bs.all id))) C | none => False) | _ => False
def dAny : DRA := fun xs C Q => match xs with | [x] => (match rdL x C with | some l => ∃ bs, allB l = some bs ∧ Q (.of (.bl (bs.any id))) C | none => False) | _ => False
theorem cq_all (hc : X.calm = true) (hK : X.K = K) : QC K X (.builtin "all") 1 (rAll K) dAll := ⟨by subst hK; exact cr_all hc, fun W S C σ st vs xs QD Q hlen r q k => by
  unfold dAll at q
  split at q
  · split at q
    · rename_i l hl
      obtain ⟨bs, hb, q⟩ := q
      obtain ⟨v, rfl, r0⟩ := repVs1 r
      obtain ⟨a, us, rfl, h1, h2⟩ := rdL_ok st.m r0 hl
      exact ⟨a, bs, rfl, by rw [← allB_ok h2 hb]; exact SqL.of h1, k.here st (.bl _) q⟩
    · exact q.elim
  · exact q.elim⟩
theorem cq_any (hc : X.calm = true) (hK : X.K = K) : QC K X (.builtin "any") 1 (rAny K) dAny := ⟨by subst hK; exact cr_any hc, fun W S C σ st vs xs QD Q hlen r q k => by
  unfold dAny at q
  split at q
  · split at q
    · rename_i l hl
      obtain ⟨bs, hb, q⟩ := q
      obtain ⟨v, rfl, r0⟩ := repVs1 r
      obtain ⟨a, us, rfl, h1, h2⟩ := rdL_ok st.m r0 hl
      exact ⟨a, bs, rfl, by rw [← allB_ok h2 hb]; exact SqL.of h1, k.here st (.bl _) q⟩
    · exact q.elim
  · exact q.elim⟩
def allI : List D → Option (List Int)
  | [] => some []
  | .int b :: r => (allI r).map (b :: ·)
  | _ => none
theorem allI_ok : ∀ {us : List V} {l : List D} {bs : List Int}, Reps K W us l → allI l = some bs → us = bs.map V.int
  | _, _, bs, .nil, h => by cases h; rfl
  | _, _, bs, .cons v d vs ds r t, h => by
    cases d <;> first | (cases h; done) | skip
    rename_i b
    have h' : (allI ds).map (b :: ·) = some bs := h
    cases e : allI ds with
    | none => rw [e] at h'; cases h'
    | some cs =>
      rw [e] at h'; cases h'
      cases r
      rw [List.map_cons, allI_ok t e]
theorem allI_map (l : List Int) : allI (l.map D.int) = some l := by
  induction l with
  | nil => rfl
  | cons b r ih => show (allI (r.map D.int)).map (b :: ·) = _; rw [ih]; rfl
def dSum : DRA := fun xs C Q => match xs with | [x] => (match rdL x C with | some l => ∃ bs, allI l = some bs ∧ Q (.of (.int bs.sum)) C | none => False) | _ => False
theorem cq_sum (hc : X.calm = true) (hK : X.K = K) : QC K X (.builtin "sum") 1 (rSum K) dSum := ⟨by subst hK; exact cr_sum hc, fun W S C σ st vs xs QD Q hlen r q k => by
  unfold dSum at q
  split at q
  · split at q
    · rename_i l hl
      obtain ⟨bs, hb, q⟩ := q
      obtain ⟨v, rfl, r0⟩ := repVs1 r
      obtain ⟨a, us, rfl, h1, h2⟩ := rdL_ok st.m r0 hl
      exact ⟨a, bs, rfl, by rw [← allI_ok h2 hb]; exact SqL.of h1, k.here st (.int _) q⟩
    · exact q.elim
  · exact q.elim⟩
/-! tuple(l), text.join(l) -/
def dTupOf (d : DTE) : DTE := fun S C Q => d S C fun x C1 => match rdQ x C1 with | some l => Q (.of (.tup l)) C1 | none => False
theorem qe_tupleOf {p : Pos} (hK : X.K = K) (hg : Gl X "tuple") (hm : X.mg "tuple" = none) (ha : QE K X a ta da) (na : starEach [a] X.env = (false, eval a X.env) :: starEach [] X.env := by rfl) : QE K X (.Call (.Name "tuple" p) [a] [] pos) (tThen ta (kTup K)) (dTupOf da) :=
  ⟨pe_tupleOfG hK hg hm ha.p na, fun W S C σ st QD Q q k => ha.r W S C σ st _ _ q fun v x W1 C1 e1 s1 r1 q1 => by
  split at q1
  · rename_i l hl
    unfold rdQ at hl
    split at hl
    · cases hl
      obtain ⟨a, us, e, h1, h2⟩ := rep_tup r1
      subst e
      exact .inr ⟨a, us, rfl, h1, k.at e1 s1 r1 q1⟩
    · cases hl
      obtain ⟨a, us, rfl, h1, h2⟩ := r1
      refine .inl ⟨a, us, rfl, ?_, fun p hp => KV.newT k e1 s1 h2 hp q1⟩
      rcases h1 with ⟨h1, _⟩ | h1
      · exact .inl h1
      · exact h1 _
    · obtain ⟨a, us, rfl, h1, h2⟩ := rdL_ok s1.m r1 hl
      exact .inl ⟨a, us, rfl, SqL.of h1, fun p hp => KV.newT k e1 s1 h2 hp q1⟩
  · exact q1.elim⟩
def allS : List D → Option (List (List Nat))
  | [] => some []
  | .str b :: r => (allS r).map (b :: ·)
  | _ => none
theorem allS_ok : ∀ {us : List V} {l : List D} {bs : List (List Nat)}, Reps K W us l → allS l = some bs → ∃ ys : List Str, us = ys.map V.str ∧ ys.map cl = bs
  | _, _, bs, .nil, h => by cases h; exact ⟨[], rfl, rfl⟩
  | _, _, bs, .cons v d vs ds r t, h => by
    cases d <;> first | (cases h; done) | skip
    rename_i b
    have h' : (allS ds).map (b :: ·) = some bs := h
    cases e : allS ds with
    | none => rw [e] at h'; cases h'
    | some cs =>
      rw [e] at h'; cases h'
      obtain ⟨z, rfl, rfl⟩ := rep_str r
      obtain ⟨ys, rfl, rfl⟩ := allS_ok t e
      exact ⟨z :: ys, rfl, rfl⟩
theorem allS_map (l : List (List Nat)) : allS (l.map D.str) = some l := by
  induction l with
  | nil => rfl
  | cons b r ih => show (allS (r.map D.str)).map (b :: ·) = _; rw [ih]; rfl
abbrev joinT (s : List Nat) (l : List (List Nat)) : List Nat := TL.joinL s l
def dJoin (d1 d2 : DTE) : DTE := fun S C Q => d1 S C fun x C1 => match x with
  | .of (.str s) => d2 S C1 fun y C2 => (match rdQ y C2 with | some l => ∃ bs, allS l = some bs ∧ Z16 ((bs.map List.length).sum + bs.length * s.length) ∧ Q (.of (.str (joinT s bs))) C2 | none => False)
  | _ => False
theorem qe_join {apos : Pos} (hK : X.K = K) (ho : QE K X o to dO) (he : QE K X e te de) (hs : starEach [e] X.env = [(false, eval e X.env)] := by rfl) (hbase : attributeBase o "join" X.env (eval o X.env) = eval o X.env := by rfl) (hline : (apos.endLine == pos.line) = true := by rfl) :
    QE K X (.Call (.Attribute o "join" apos) [e] [] pos) (tM1 (fun x xs H Q => ∃ a p, ∃ ys : List Str, x = .str a ∧ xs = [.ref p] ∧ (SqL K H p (ys.map V.str) ∨ SqT K H p (ys.map V.str)) ∧
      (ys.map (·.length)).sum + ys.length * a.length ≤ 16777216 ∧ Q (.str (Txt.join a ys)) H) to te) (dJoin dO de) :=
  ⟨pe_joinG hK ho.p he.p hs hbase hline, fun W S C σ st QD Q q k => ho.r W S C σ st _ _ q fun v x W1 C1 e1 s1 r1 q1 => by
  split at q1
  · obtain ⟨z, rfl, rfl⟩ := rep_str r1
    refine ⟨⟨z, rfl⟩, he.r W1 S C1 σ s1 _ _ q1 fun u y W2 C2 e2 s2 r2 q2 => ?_⟩
    split at q2
    · rename_i l hl
      obtain ⟨bs, hb, hz, q3⟩ := q2
      obtain ⟨a, us, rfl, h1, h2⟩ := rdQ_ok s2.m r2 hl
      obtain ⟨ys, rfl, rfl⟩ := allS_ok h2 hb
      refine ⟨z, a, ys, rfl, rfl, h1, ?_, k.at (e1.trans e2) s2 (rep_of ?_) q3⟩
      · rw [List.map_map, List.length_map, cl_len] at hz
        have : (List.length ∘ cl) = (fun x : Str => x.length) := by funext x; exact cl_len x
        rw [this] at hz
        exact hz
      · show TL.tl _ = _
        rw [TL.join_eq, TL.tl_join]
    · exact q2.elim
  · exact q1.elim⟩
/-! fields of instances that never change -/
def dFld (c f : Str) (d : DTE) : DTE := fun S C Q => d S C fun x C1 => match x with
  | .of (.ins c' fs) => c' = c ∧ ∃ g, fs.lookup f = some g ∧ Q (.of g) C1
  | _ => False
theorem qe_fld {c f : Str} (hK : X.K = K) (hc : Cls K (He.ga K c)) (hn : NoAttr K (He.ga K c) f) (he : QE K X e te de) (hb : attributeBase e f X.env (eval e X.env) = eval e X.env) : QE K X (.Attribute e f pos) (tFld K te f) (dFld c f de) :=
  ⟨pe_fldG hK he.p hb, fun W S C σ st QD Q q k => he.r W S C σ st _ _ q fun v x W1 C1 e1 s1 r1 q1 => by
  split at q1
  · obtain ⟨rfl, g, hg, q2⟩ := q1
    cases r1
    rename_i a dx fs' hn' hh r
    obtain ⟨u, h1, h2⟩ := RepF.look r hg
    exact ⟨a, _, dx, fs', u, rfl, hh, hc, hn, h1, k.at e1 s1 h2 q2⟩
  · exact q1.elim⟩
end
end Z

set_option Elab.async false
set_option linter.all false
set_option maxRecDepth 100000
set_option maxHeartbeats 4000000
/-! ### judgements over trees: what is walked, targets, statements -/
namespace Z
open PySem PySem.Spec PyProof.Rows L2
abbrev DTI := Sl → Cs → (List D → (Cs → Prop) → Cs → Prop) → Prop
/-- what J gives from W1 on, while ok holds of the cells -/
def WalkD (K : PySem.W.Frag) (J : It) (W1 : Wd) (items : List D) (ok : Cs → Prop) : Prop := ∀ W2 C2, Ext W1 W2 → Mem K W2 C2 → ok C2 →
  (∀ i, i < items.length → J.go i W2.H ∧ ∀ x H', J.yld i W2.H x H' → ∃ W3, Ext W2 W3 ∧ W3.H = H' ∧ Mem K W3 C2 ∧ ∃ d, items[i]? = some d ∧ Rep K W3 x d) ∧ J.stop items.length W2.H
def RefI (K : PySem.W.Frag) [Gd K] (wi : TI) (di : DTI) : Prop := ∀ W S C σ, Sta K W S C σ → ∀ QD R, di S C QD →
  (∀ J W' C' items ok, Ext W W' → Sta K W' S C' σ → WalkD K J W' items ok → QD items ok C' → R J W'.H) → wi σ W.H R
structure QI (K : PySem.W.Frag) [Gd K] (X : Cx) (tg e : Expr) (wi : TI) (di : DTI) : Prop where
  p : PI X tg e wi
  r : RefI K wi di
def rngD (lo : Int) (n : Nat) : List D := (List.range n).map fun i => .int (lo + (i : Nat))
theorem rngD_len (lo : Int) (n : Nat) : (rngD lo n).length = n := by unfold rngD; rw [List.length_map, List.length_range]
theorem rngD_at {lo : Int} {n i : Nat} (h : i < n) : (rngD lo n)[i]? = some (.int (lo + (i : Nat))) := by unfold rngD; rw [List.getElem?_map, List.getElem?_range h]; rfl
def enumD : Nat → List D → List D
  | _, [] => []
  | k, d :: r => .tup [.int (k : Nat), d] :: enumD (k + 1) r
theorem enumD_len : ∀ (k : Nat) (l : List D), (enumD k l).length = l.length
  | _, [] => rfl
  | k, d :: r => congrArg (· + 1) (enumD_len (k + 1) r)
theorem enumD_at : ∀ {k i : Nat} {l : List D} {d : D}, l[i]? = some d → (enumD k l)[i]? = some (.tup [.int ((k + i : Nat) : Int), d])
  | k, i, [], d, h => by simp at h
  | k, 0, e :: r, d, h => by cases h; rfl
  | k, i + 1, e :: r, d, h => by
    have q := enumD_at (k := k + 1) (i := i) (l := r) h
    rw [show k + (i + 1) = k + 1 + i by omega]
    exact q
def zipD (l m : List D) : List D := List.zipWith (fun a b => .tup [a, b]) l m
theorem zipD_len (l m : List D) : (zipD l m).length = min l.length m.length := List.length_zipWith
theorem zipD_at {l m : List D} {i : Nat} {a b : D} (h1 : l[i]? = some a) (h2 : m[i]? = some b) : (zipD l m)[i]? = some (.tup [a, b]) := by
  unfold zipD; rw [List.getElem?_zipWith, h1, h2]
section
variable {K : PySem.W.Frag} [Gd K] {X : Cx} {tg a b e o : Expr} {es : List Expr} {te to : TE} {de dO : DTE} {t : TA} {dt : DTA} {pos : Pos} {n : Nat} {W : Wd} {S : Sl} {C : Cs} {σ : L2.St}
def iqR1 (d : DTA) : DTI := fun S C Q => d S C fun xs C1 => match xs with | [.of (.int j)] => (-(2 ^ 62) ≤ j ∧ j < 2 ^ 62) ∧ Q (rngD 0 j.toNat) (fun _ => True) C1 | _ => False
def iqR2 (d : DTA) : DTI := fun S C Q => d S C fun xs C1 => match xs with | [.of (.int i), .of (.int j)] => (-(2 ^ 62) ≤ i ∧ i < 2 ^ 62 ∧ -(2 ^ 62) ≤ j ∧ j < 2 ^ 62) ∧ Q (rngD i (j - i).toNat) (fun _ => True) C1 | _ => False
theorem walkD_range {lo : Int} {n : Nat} {W : Wd} : WalkD K (Itr lo n) W (rngD lo n) (fun _ => True) := fun W2 C2 _ m _ => by
  rw [rngD_len]
  refine ⟨fun i hi => ⟨hi, fun x H' h => ?_⟩, Nat.le_refl _⟩
  obtain ⟨rfl, rfl⟩ := h
  exact ⟨W2, .refl, rfl, m, _, rngD_at hi, .int _⟩
theorem qi_range1 {p : Pos} (hg : Gl X "range") (hm : X.mg "range" = none) (ha : QA K X [a] 1 t dt) (hs : starEach [a] X.env = [(false, eval a X.env)] := by rfl) : QI K X tg (.Call (.Name "range" p) [a] [] pos) (iRng1 t) (iqR1 dt) :=
  ⟨pi_range1 hg hm ha.p hs, fun W S C σ st QD R q k => ha.r W S C σ st _ _ q fun vs xs W1 C1 hl e1 s1 r1 q1 => by
  split at q1
  · obtain ⟨v, rfl, r0⟩ := repVs1 r1
    cases r0
    exact ⟨_, rfl, q1.1.1, q1.1.2, k _ W1 C1 _ _ e1 s1 walkD_range q1.2⟩
  · exact q1.elim⟩
theorem qi_range2 {p : Pos} (hg : Gl X "range") (hm : X.mg "range" = none) (ha : QA K X [a, b] 2 t dt) (hs : starEach [a, b] X.env = [(false, eval a X.env), (false, eval b X.env)] := by rfl) (hs2 : starEach [b] X.env = [(false, eval b X.env)] := by rfl) : QI K X tg (.Call (.Name "range" p) [a, b] [] pos) (iRng2 t) (iqR2 dt) :=
  ⟨pi_range2 hg hm ha.p hs hs2, fun W S C σ st QD R q k => ha.r W S C σ st _ _ q fun vs xs W1 C1 hl e1 s1 r1 q1 => by
  split at q1
  · obtain ⟨v, u, rfl, r0, r2⟩ := repVs2 r1
    cases r0; cases r2
    exact ⟨_, _, rfl, q1.1, k _ W1 C1 _ _ e1 s1 walkD_range q1.2⟩
  · exact q1.elim⟩
def iqL (d : DTE) : DTI := fun S C Q => d S C fun x C1 => match rdL x C1 with | some l => Q l (fun C => rdL x C = some l) C1 | none => False
def iqT (d : DTE) : DTI := fun S C Q => d S C fun x C1 => match rdT x with | some l => Q l (fun _ => True) C1 | none => False
def iqS (d : DTE) : DTI := fun S C Q => d S C fun x C1 => match x with | .of (.str l) => Q (l.map fun c => .str [c]) (fun _ => True) C1 | _ => False
theorem qi_list (hK : X.K = K) (h : QE K X e te de) : QI K X tg e (iList K te) (iqL de) := ⟨pi_listG hK h.p, fun W S C σ st QD R q k => h.r W S C σ st _ _ q fun v x W1 C1 e1 s1 r1 q1 => by
  split at q1
  · rename_i l hl
    obtain ⟨p, us, rfl, h1, h2⟩ := rdL_ok s1.m r1 hl
    refine ⟨p, rfl, ⟨us, SqL.of h1⟩, k _ W1 C1 _ _ e1 s1 (fun W2 C2 e2 m2 hok => ?_) q1⟩
    obtain ⟨p', us', e, h3, h4⟩ := rdL_ok m2 (r1.mono s1.m e2) hok
    cases e
    refine ⟨fun i hi => ⟨⟨us', us'[i]'(by rw [h4.len]; exact hi), SqL.of h3, List.getElem?_eq_getElem _⟩, fun x H' hy => ?_⟩, us', SqL.of h3, by rw [h4.len]; exact Nat.le_refl _⟩
    obtain ⟨rfl, hy⟩ := hy
    obtain ⟨d, hd, rd⟩ := h4.at' (hy us' (SqL.of h3))
    exact ⟨W2, .refl, rfl, m2, d, hd, rd⟩
  · exact q1.elim⟩
theorem qi_tup (hK : X.K = K) (h : QE K X e te de) : QI K X tg e (iTup K te) (iqT de) := ⟨pi_tupG hK h.p, fun W S C σ st QD R q k => h.r W S C σ st _ _ q fun v x W1 C1 e1 s1 r1 q1 => by
  split at q1
  · rename_i l hl
    obtain ⟨p, us, rfl, h1, h2⟩ := rdT_ok r1 hl
    refine ⟨p, rfl, ⟨us, h1⟩, k _ W1 C1 _ _ e1 s1 (fun W2 C2 e2 m2 hok => ?_) q1⟩
    obtain ⟨p', us', e, h3, h4⟩ := rdT_ok (r1.mono s1.m e2) hl
    cases e
    refine ⟨fun i hi => ⟨⟨us', us'[i]'(by rw [h4.len]; exact hi), h3, List.getElem?_eq_getElem _⟩, fun x H' hy => ?_⟩, us', h3, by rw [h4.len]; exact Nat.le_refl _⟩
    obtain ⟨rfl, hy⟩ := hy
    obtain ⟨d, hd, rd⟩ := h4.at' (hy us' h3)
    exact ⟨W2, .refl, rfl, m2, d, hd, rd⟩
  · exact q1.elim⟩
theorem qi_str (h : QE K X e te de) : QI K X tg e (iStr te) (iqS de) := ⟨pi_str h.p, fun W S C σ st QD R q k => h.r W S C σ st _ _ q fun v x W1 C1 e1 s1 r1 q1 => by
  split at q1
  · obtain ⟨z, rfl, rfl⟩ := rep_str r1
    refine ⟨z, rfl, k _ W1 C1 _ _ e1 s1 (fun W2 C2 e2 m2 _ => ?_) q1⟩
    have hsz : ((cl z).map fun c => D.str [c]).length = z.cps.size := by rw [List.length_map, Array.length_toList]
    rw [hsz]
    refine ⟨fun i hi => ⟨hi, fun x H' hy => ?_⟩, Nat.le_refl _⟩
    obtain ⟨rfl, c, hc, rfl⟩ := hy
    refine ⟨W2, .refl, rfl, m2, .str [c], ?_, rep_of rfl⟩
    rw [List.getElem?_map, Array.getElem?_toList, hc]; rfl
  · exact q1.elim⟩
def iqEn (d : DTA) : DTI := fun S C Q => d S C fun xs C1 => match xs with | [x] => (match rdL x C1 with | some l => Q (enumD 0 l) (fun C => rdL x C = some l) C1 | none => False) | _ => False
theorem qi_enum {e1 : Expr} {elts : List Expr} {kk : Nat} {tpos p : Pos} (hK : X.K = K) (hg : Gl X "enumerate") (hm : X.mg "enumerate" = none) (hp : PI X (.Tuple elts kk tpos) (.Call (.Name "enumerate" p) [e1] [] pos) (iEnum K t)) (ha : QA K X [e1] 1 t dt) : QI K X (.Tuple elts kk tpos) (.Call (.Name "enumerate" p) [e1] [] pos) (iEnum K t) (iqEn dt) := ⟨hp, fun W S C σ st QD R q k => ha.r W S C σ st _ _ q fun vs xs W1 C1 hln e1 s1 r1 q1 => by
  split at q1
  · rename_i x
    split at q1
    · rename_i l hl
      obtain ⟨v, rfl, r0⟩ := repVs1 r1
      obtain ⟨p, us, rfl, h1, h2⟩ := rdL_ok s1.m r0 hl
      refine ⟨p, us, rfl, SqL.of h1, k _ W1 C1 _ _ e1 s1 (fun W2 C2 e2 m2 hok => ?_) q1⟩
      obtain ⟨p', us', e, h3, h4⟩ := rdL_ok m2 (r0.mono s1.m e2) hok
      cases e
      rw [enumD_len]
      refine ⟨fun i hi => ⟨⟨us', us'[i]'(by rw [h4.len]; exact hi), SqL.of h3, List.getElem?_eq_getElem _⟩, fun x H' hy => ?_⟩, us', SqL.of h3, by rw [h4.len]; exact Nat.le_refl _⟩
      obtain ⟨T, y, rfl, hT, rfl, hy⟩ := hy
      obtain ⟨d, hd, rd⟩ := h4.at' (hy us' (SqL.of h3))
      refine ⟨W2.new T _, Ext.new hT, rfl, m2.new hT, .tup [.int (i : Nat), d], ?_, .tup _ _ _ upd_same (m2.fresh hT).1 ?_⟩
      · have := enumD_at (k := 0) hd
        rw [Nat.zero_add] at this; exact this
      · exact .cons _ _ _ _ (.int _) (.one (Rep.mono ((Ext.new hT).pers m2.wrws) rd))
    · exact q1.elim
  · exact q1.elim⟩
def iqZp (d : DTA) : DTI := fun S C Q => d S C fun xs C1 => match xs with | [x, y] => (match rdL x C1, rdL y C1 with | some l, some m => Q (zipD l m) (fun C => rdL x C = some l ∧ rdL y C = some m) C1 | _, _ => False) | _ => False
theorem qi_zip {e1 e2 : Expr} {elts : List Expr} {kk : Nat} {tpos p : Pos} (hK : X.K = K) (hp : PI X (.Tuple elts kk tpos) (.Call (.Name "zip" p) [e1, e2] [] pos) (iZip K t)) (ha : QA K X [e1, e2] 2 t dt) : QI K X (.Tuple elts kk tpos) (.Call (.Name "zip" p) [e1, e2] [] pos) (iZip K t) (iqZp dt) := ⟨hp, fun W S C σ st QD R q k => ha.r W S C σ st _ _ q fun vs xs W1 C1 hln e1 s1 r1 q1 => by
  split at q1
  · rename_i x y
    split at q1
    · rename_i l m hl hm
      obtain ⟨v, u, rfl, r0, r2⟩ := repVs2 r1
      obtain ⟨p, us, rfl, h1, h2⟩ := rdL_ok s1.m r0 hl
      obtain ⟨p2, us2, rfl, h12, h22⟩ := rdL_ok s1.m r2 hm
      refine ⟨p, p2, us, us2, rfl, SqL.of h1, SqL.of h12, k _ W1 C1 _ _ e1 s1 (fun W2 C2 e2 m2 hok => ?_) q1⟩
      obtain ⟨p', us', e, h3, h4⟩ := rdL_ok m2 (r0.mono s1.m e2) hok.1
      cases e
      obtain ⟨p', us2', e, h5, h6⟩ := rdL_ok m2 (r2.mono s1.m e2) hok.2
      cases e
      rw [zipD_len]
      refine ⟨fun i hi => ?_, us', us2', SqL.of h3, SqL.of h5, by rw [h4.len, h6.len]; omega⟩
      have i1 : i < us'.length := by rw [h4.len]; omega
      have i2 : i < us2'.length := by rw [h6.len]; omega
      refine ⟨⟨us', us2', us'[i], us2'[i], SqL.of h3, SqL.of h5, List.getElem?_eq_getElem _, List.getElem?_eq_getElem _⟩, fun x H' hy => ?_⟩
      obtain ⟨T, y1, y2, rfl, hT, rfl, hy, hy'⟩ := hy
      obtain ⟨d, hd, rd⟩ := h4.at' (hy us' (SqL.of h3))
      obtain ⟨d', hd', rd'⟩ := h6.at' (hy' us2' (SqL.of h5))
      have pe := (Ext.new (W := W2) (o := .tup [y1, y2]) hT).pers m2.wrws
      exact ⟨W2.new T _, Ext.new hT, rfl, m2.new hT, .tup [d, d'], zipD_at hd hd', .tup _ _ _ upd_same (m2.fresh hT).1 (.cons _ _ _ _ (Rep.mono pe rd) (.one (Rep.mono pe rd')))⟩
    · exact q1.elim
  · exact q1.elim⟩
end
/-! targets -/
abbrev DTG := DV → Sl → Cs → (Sl → Cs → Prop) → Prop
abbrev DTGs := List D → Sl → Cs → (Sl → Cs → Prop) → Prop
abbrev KG (K : PySem.W.Frag) [Gd K] (W : Wd) (QD : Sl → Cs → Prop) (Q : L2.St → Hp → Prop) : Prop := ∀ W' S' C' σ', Ext W W' → Sta K W' S' C' σ' → QD S' C' → Q σ' W'.H
theorem KG.ext {K : PySem.W.Frag} [Gd K] {W W1 : Wd} {QD : Sl → Cs → Prop} {Q : L2.St → Hp → Prop} (k : KG K W QD Q) (e : Ext W W1) : KG K W1 QD Q := fun W' S' C' σ' e' => k W' S' C' σ' (e.trans e')
def RefG (K : PySem.W.Frag) [Gd K] (g : TG) (d : DTG) : Prop := ∀ W S C σ, Sta K W S C σ → ∀ v x QD Q, RepV K W v x → d x S C QD → KG K W QD Q → g v σ W.H Q
def RefGs (K : PySem.W.Frag) [Gd K] (g : TGs) (d : DTGs) : Prop := ∀ W S C σ, Sta K W S C σ → ∀ vs ds QD Q, Reps K W vs ds → d ds S C QD → KG K W QD Q → g vs σ W.H Q
structure QG (K : PySem.W.Frag) [Gd K] (X : Cx) (e : Expr) (g : TG) (d : DTG) : Prop where
  p : PG X e g
  r : RefG K g d
structure QGs (K : PySem.W.Frag) [Gd K] (X : Cx) (es : List Expr) (g : TGs) (d : DTGs) : Prop where
  p : PGs X es g
  r : RefGs K g d
def dName (i : Nat) : DTG := fun x S C k => k (S.set i (some x)) C
/-- a list of one's own is taken for a tree -/
def dNameF (i : Nat) : DTG := fun x S C k => match x with
  | .cel j => (match C[j]? with | some (.lst l) => k (S.set i (some (.of (.lst l)))) (C.set j .dead) | _ => False)
  | x => k (S.set i (some x)) C
section
variable {K : PySem.W.Frag} [Gd K] {X : Cx} {e o : Expr} {es : List Expr} {pos : Pos} {i : Nat} {x : Str}
theorem refG_name {i : Nat} : RefG K (gName i) (dName i) := fun W S C σ st v x QD Q r q k => k W _ C _ .refl ⟨st.m, st.s.set r, st.g⟩ q
theorem refG_nameF {i : Nat} : RefG K (gName i) (dNameF i) := fun W S C σ st v x QD Q r q k => by
  unfold dNameF at q
  split at q
  · split at q
    · rename_i j l hl
      obtain ⟨a, W', h1, h2, h3, h4, h5⟩ := st.m.freeze hl
      obtain ⟨b, fp, r1, rfl⟩ := r
      rw [h1] at r1
      cases r1
      show Q _ W.H
      rw [← h2]
      exact k W' _ _ _ h3 ⟨h4, (st.s.mono st.m h3).set (x := .of (.lst l)) h5, Gd.ext st.g h3⟩ q
    · exact q.elim
  · exact k W _ C _ .refl ⟨st.m, st.s.set r, st.g⟩ q
theorem qg_name (hN : X.N.Nodup) (hi : X.N[i]? = some x) (hx : Loc X.env.scope x) (hf : X.fn x = true ∨ X.env.scope.names.lookup x = some .local := by first | exact .inl rfl | exact .inr rfl | assumption) : QG K X (.Name x pos) (gName i) (dName i) := ⟨pg_name hN hi hx hf, refG_name⟩
theorem qg_nameF (hN : X.N.Nodup) (hi : X.N[i]? = some x) (hx : Loc X.env.scope x) (hf : X.fn x = true ∨ X.env.scope.names.lookup x = some .local := by first | exact .inl rfl | exact .inr rfl | assumption) : QG K X (.Name x pos) (gName i) (dNameF i) := ⟨pg_name hN hi hx hf, refG_nameF⟩
def dGNil : DTGs := fun ds S C k => match ds with | [] => k S C | _ => False
def dGCons (g : DTG) (r : DTGs) : DTGs := fun ds S C k => match ds with | d :: ds => g (.of d) S C fun S1 C1 => r ds S1 C1 k | [] => False
theorem qgs_nil : QGs K X [] gNil dGNil := ⟨pgs_nil, fun W S C σ st vs ds QD Q r q k => by
  unfold dGNil at q
  split at q
  · cases r; exact ⟨rfl, k W S C σ .refl st q⟩
  · exact q.elim⟩
theorem qgs_cons {t : TG} {d : DTG} {u : TGs} {du : DTGs} (h1 : QG K X e t d) (h2 : QGs K X es u du) (hs : (assignEach (e :: es) X.env).map (·.2) = assign e X.env :: (assignEach es X.env).map (·.2) := by rfl) : QGs K X (e :: es) (gCons t u) (dGCons d du) :=
  ⟨pgs_cons h1.p h2.p hs, fun W S C σ st vs ds QD Q r q k => by
  unfold dGCons at q
  split at q
  · cases r with
    | cons v d vs ds h t =>
      refine ⟨v, vs, rfl, h1.r W S C σ st v (.of _) _ _ h q fun W1 S1 C1 σ1 e1 s1 q1 => ?_⟩
      exact h2.r W1 S1 C1 σ1 s1 vs _ _ _ (Reps.mono (e1.pers st.m.wrws) t) q1 (KG.ext k e1)
  · exact q.elim⟩
def dGTup (n : Nat) (g : DTGs) : DTG := fun x S C k => match x with | .of (.tup l) => l.length = n ∧ g l S C k | _ => False
theorem qg_tup {kk n : Nat} {t : TGs} {d : DTGs} (hK : X.K = K) (hc : X.calm = true) (h : QGs K X es t d) (hn : (assignEach es X.env).length = n := by rfl) (hst : (assignEach es X.env).findIdx? (·.1) = none := by rfl) : QG K X (.Tuple es kk pos) (gTup K n t) (dGTup n d) :=
  ⟨pg_tupG hK hc h.p hn hst, fun W S C σ st v x QD Q r q k => by
  unfold dGTup at q
  split at q
  · obtain ⟨a, us, rfl, h1, h2⟩ := rep_tup r
    exact ⟨a, us, rfl, h1, by rw [h2.len]; exact q.1, h.r W S C σ st us _ _ _ h2 q.2 k⟩
  · exact q.elim⟩
end
theorem Pers.of {W W' : Wd} (h1 : W'.H = W.H) (h2 : W'.ws = W.ws) : Pers W W' := fun b o h n => ⟨by rw [h1]; exact h, by rw [h2]; exact n⟩
/-! what a comprehension's own names do -/
def GOwn (g : TG) (vs : List Nat) : Prop := ∀ v σ H Q, g v σ H Q → g v σ H fun σ2 H2 => wipe σ2 vs = wipe σ vs ∧ Q σ2 H2
def GOwns (g : TGs) (vs : List Nat) : Prop := ∀ us σ H Q, g us σ H Q → g us σ H fun σ2 H2 => wipe σ2 vs = wipe σ vs ∧ Q σ2 H2
theorem wipe_set {i : Nat} {x : Option V} : ∀ {vs : List Nat} {σ : L2.St}, i ∈ vs → wipe (σ.set i x) vs = wipe σ vs
  | [], σ, h => by simp at h
  | v :: vs, σ, h => by
    show (wipe (σ.set i x) vs).set v none = (wipe σ vs).set v none
    by_cases e : i ∈ vs
    · rw [wipe_set e]
    · have hv : i = v := by
        rcases List.mem_cons.mp h with q | q
        · exact q
        · exact absurd q e
      subst hv
      have key : ∀ (us : List Nat), i ∉ us → wipe (σ.set i x) us = (wipe σ us).set i x := by
        intro us
        induction us with
        | nil => intro _; rfl
        | cons u us ih =>
          intro hu
          have h1 : i ≠ u := fun q => hu (by rw [q]; exact List.mem_cons_self)
          show (wipe (σ.set i x) us).set u none = ((wipe σ us).set u none).set i x
          rw [ih (fun q => hu (List.mem_cons_of_mem _ q)), List.set_comm _ _ h1]
      rw [key vs e, List.set_set]
theorem wipe_idem {σ : L2.St} {vs : List Nat} : wipe (wipe σ vs) vs = wipe σ vs := by
  have key : ∀ us : List Nat, (∀ u ∈ us, u ∈ vs) → wipe (wipe σ us) vs = wipe σ vs := by
    intro us
    induction us with
    | nil => intro _; rfl
    | cons u us ih =>
      intro h
      show wipe ((wipe σ us).set u none) vs = _
      rw [wipe_set (h u List.mem_cons_self), ih fun w hw => h w (List.mem_cons_of_mem _ hw)]
  exact key vs fun _ h => h
theorem gown_name {i : Nat} {vs : List Nat} (h : i ∈ vs := by decide) : GOwn (gName i) vs := fun v σ H Q q => ⟨wipe_set h, q⟩
theorem gown_nil {vs : List Nat} : GOwns gNil vs := fun us σ H Q q => ⟨q.1, rfl, q.2⟩
/-- a target's reading may be weakened -/
def GMono (g : TG) : Prop := ∀ v σ H Q Q', (∀ σ' H', Q σ' H' → Q' σ' H') → g v σ H Q → g v σ H Q'
theorem gmono_name {i : Nat} : GMono (gName i) := fun _ _ _ _ _ h q => h _ _ q
theorem gown_cons {g : TG} {u : TGs} {vs : List Nat} (h : GOwn g vs) (m : GMono g) (h2 : GOwns u vs) : GOwns (gCons g u) vs := fun us σ H Q q => by
  obtain ⟨v, r, e, q⟩ := q
  refine ⟨v, r, e, m _ _ _ _ _ (fun σ' H' q' => ?_) (h v σ H _ q)⟩
  obtain ⟨w1, q'⟩ := q'
  have q2 := h2 r σ' H' _ q'
  rw [w1] at q2
  exact q2
theorem gown_tup {K : PySem.W.Frag} {n : Nat} {t : TGs} {vs : List Nat} (h : GOwns t vs) : GOwn (gTup K n t) vs := fun v σ H Q q => by
  obtain ⟨a, xs, e, h1, h2, q⟩ := q
  exact ⟨a, xs, e, h1, h2, h xs σ H Q q⟩
/-! comprehensions -/
def wipeS (S : Sl) : List Nat → Sl
  | [] => S
  | v :: vs => (wipeS S vs).set v none
theorem Slo.wipe {K : PySem.W.Frag} {W : Wd} {S : Sl} {σ : L2.St} (h : Slo K W S σ) : ∀ vs, Slo K W (wipeS S vs) (L2.wipe σ vs)
  | [] => h
  | v :: vs => by
    have ih := Slo.wipe h vs
    refine ⟨by show ((wipeS S vs).set v none).length = ((L2.wipe σ vs).set v none).length; rw [List.length_set, List.length_set, ih.len], fun i x q => ?_⟩
    have q' : ((wipeS S vs).set v none)[i]? = some (some x) := q
    by_cases e : v = i
    · subst e
      by_cases hv : v < (wipeS S vs).length
      · rw [List.getElem?_set_self hv] at q'; cases q'
      · rw [List.getElem?_eq_none (by rw [List.length_set]; omega)] at q'; cases q'
    · rw [List.getElem?_set_ne e] at q'
      obtain ⟨u, h1, h2⟩ := ih.get i x q'
      refine ⟨u, ?_, h2⟩
      show ((L2.wipe σ vs).set v none)[i]? = _
      rw [List.getElem?_set_ne e]; exact h1
structure QTs (K : PySem.W.Frag) [Gd K] (X : Cx) (ifs : List Expr) (t : TT) (d : DTT) : Prop where
  p : PTs X ifs t
  r : RefT K t d
def dYes : DTT := fun _ C Q => Q true C
def dLc (di : DTI) (dg : DTG) (dt : DTT) (de : DTE) (vs : List Nat) : DTE := fun S C Q => di S C fun items ok C1 => ∃ I : Nat → List D → Cs → Prop, I 0 [] C1 ∧ (∀ i acc C2, I i acc C2 → ok C2) ∧
  (∀ i acc C2 d, items[i]? = some d → I i acc C2 → dg (.of d) (wipeS S vs) C2 fun S2 C3 => dt S2 C3 fun b C4 => if b = true then de S2 C4 fun y C5 => frz y C5 fun e C6 => acc.length < 16777216 ∧ I (i + 1) (acc ++ [e]) (C6.take C1.length) else I (i + 1) acc (C4.take C1.length)) ∧
  ∀ acc C2, I items.length acc C2 → Q (.cel C2.length) (C2 ++ [.lst acc])
abbrev Wd.pvS (W : Wd) (p : List Addr) : Wd := { W with pv := p }
section
variable {K : PySem.W.Frag} [Gd K] {W W' W1 : Wd} {S : Sl} {C : Cs} {σ : L2.St} {D0 : Addr} {p : List Addr}
theorem Mem.unpv (m : Mem K W C) (h : W.pv = D0 :: p) : Mem K (W.pvS p) C :=
  ⟨m.wrws, fun b hb => m.pvws b (by rw [h]; exact List.mem_cons_of_mem _ hb), fun b hb hp => m.dis b hb (by rw [h]; exact List.mem_cons_of_mem _ hp), m.dom, m.len, fun i dc a fp h1 h2 h3 => by
    obtain ⟨q1, q2⟩ := m.cell i dc a fp h1 h2 h3
    exact ⟨q1.pers (fun _ _ h n => ⟨h, n⟩) (fun _ _ => rfl), q2⟩, m.sep⟩
theorem Mem.repv (m : Mem K (W.pvS p) C) (h1 : D0 ∈ W.ws) (h2 : D0 ∉ W.wr) : Mem K (W.pvS (D0 :: p)) C :=
  ⟨m.wrws, fun b hb => by
    rcases List.mem_cons.mp hb with e | e
    · rw [e]; exact h1
    · exact m.pvws b e, fun b hb hp => by
    rcases List.mem_cons.mp hp with e | e
    · exact h2 (e ▸ hb)
    · exact m.dis b hb e, m.dom, m.len, fun i dc a fp h1 h2 h3 => by
    obtain ⟨q1, q2⟩ := m.cell i dc a fp h1 h2 h3
    exact ⟨q1.pers (fun _ _ h n => ⟨h, n⟩) (fun _ _ => rfl), q2⟩, m.sep⟩
/-- from ahead of a comprehension into it -/
theorem RepV.inLc {v : V} {x : DV} (m : Mem K W1 C) (e : Ext W1 (W.pvS W1.pv)) (hp : W.pv = D0 :: W1.pv) (hD : W1.H D0 = none) (r : RepV K W1 v x) : RepV K W v x := by
  have r2 := r.mono m e
  cases x with
  | of d => exact Rep.mono (W := W.pvS W1.pv) (W' := W) (Pers.of rfl rfl) r2
  | cel i => exact r2
  | sub i => exact r2
  | bor l =>
    obtain ⟨a, us, rfl, h1, h2, h3, h4⟩ := r2
    obtain ⟨a', us', e', q1, _⟩ := r
    cases e'
    refine ⟨a, us, rfl, h1, h2, fun z => ?_, Reps.mono (W := W.pvS W1.pv) (W' := W) (Pers.of rfl rfl) h4⟩
    rw [hp] at z
    rcases List.mem_cons.mp z with q | q
    · rw [← q, q1] at hD; cases hD
    · exact h3 q
  | scr l =>
    obtain ⟨a, us, rfl, h1, h4⟩ := r
    refine ⟨a, us, rfl, ?_, Reps.mono (W := W.pvS W1.pv) (W' := W) (Pers.of rfl rfl) (Reps.mono (e.pers m.wrws) h4)⟩
    rcases h1 with ⟨h1, h2, h3⟩ | h1
    · refine .inl ⟨?_, fun z => ?_, fun z => ?_⟩
      · rcases h1 with h1 | ⟨o, h1⟩
        · exact .inl (e.keep a _ h1 h2)
        · exact .inr ⟨o, e.keep a _ h1 h2⟩
      · rcases e.wrn a z with r | r
        · exact h2 r
        · rcases h1 with h1 | ⟨o, h1⟩
          · rw [h1] at r; cases r
          · rw [h1] at r; cases r
      · rw [hp] at z
        rcases List.mem_cons.mp z with q | q
        · rw [← q] at hD
          rcases h1 with h1 | ⟨o, h1⟩
          · rw [h1] at hD; cases hD
          · rw [h1] at hD; cases hD
        · exact h3 q
    · exact .inr h1
theorem Slo.inLc (m : Mem K W1 C) (e : Ext W1 (W.pvS W1.pv)) (hp : W.pv = D0 :: W1.pv) (hD : W1.H D0 = none) (s : Slo K W1 S σ) : Slo K W S σ := ⟨s.len, fun i x q => by
  obtain ⟨v, h1, h2⟩ := s.get i x q
  exact ⟨v, h1, h2.inLc m e hp hD⟩⟩
end
theorem refE_lc {K : PySem.W.Frag} [Gd K] {wi : TI} {g : TG} {tt : TT} {te : TE} {di : DTI} {dg : DTG} {dt : DTT} {de : DTE} {vs : List Nat} (hi : RefI K wi di) (hg : RefG K g dg) (hw : GOwn g vs) (ht : RefT K tt dt) (he : RefE K te de) : RefE K (tLc wi g tt te vs) (dLc di dg dt de vs) := by
  intro W S C σ st QD Q q k
  refine hi W S C σ st _ _ q fun J W1 C1 items ok e1 s1 hwk q1 => ?_
  obtain ⟨I, h0, hok, hstep, hend⟩ := q1
  intro D0 hD
  have hn : C1.length = W1.As.length := s1.m.len
  -- the state within, by the turn
  let St := fun (i : Nat) (H : Hp) => ∃ (W : Wd) (C : Cs) (acc : List D) (us : List V), W.H = H ∧ Mem K W C ∧ Ext W1 (W.pvS W1.pv) ∧ W.pv = D0 :: W1.pv ∧ W.As = W1.As ∧ W.H D0 = some (.lst us) ∧ Reps K W us acc ∧ I i acc C
  have good : ∀ (W' : Wd) (C' : Cs) (i : Nat) (acc : List D) (us : List V), Mem K W' C' → Ext W1 (W'.pvS W1.pv) → W'.pv = D0 :: W1.pv → W'.H D0 = some (.lst us) → Reps K W' us acc → I i acc (C'.take C1.length) → St i W'.H := by
    intro W' C' i acc us m x hp hd hr hI
    obtain ⟨more, ha⟩ := x.as
    have hA : W'.As.take C1.length = W1.As := by
      have : W'.As = W1.As ++ more := ha
      rw [this, hn, List.take_left']
      rfl
    refine ⟨{ W' with As := W'.As.take C1.length }, C'.take C1.length, acc, us, rfl, m.cut, ?_, hp, hA, hd, Reps.mono (W := W') (W' := { W' with As := W'.As.take C1.length }) (Pers.of rfl rfl) hr, hI⟩
    exact ⟨x.keep, x.there, x.wsn, x.wsk, x.wrn, rfl, [], by show W'.As.take C1.length = _; rw [hA, List.append_nil]⟩
  refine ⟨fun i m H => m = items.length - i ∧ i ≤ items.length ∧ St i H, ⟨items.length, by simp, Nat.zero_le _, ?_⟩, ?_⟩
  · have fr := s1.m.fresh hD
    have ex : Ext W1 (({ W1 with H := L2.upd W1.H D0 (.lst []), ws := D0 :: W1.ws } : Wd)) :=
      ⟨(Ext.new hD).keep, (Ext.new hD).there, fun b h => by
        rcases List.mem_cons.mp h with e | e
        · exact .inr (e ▸ hD)
        · exact .inl e, fun b h _ _ => List.mem_cons_of_mem _ h, fun b h => .inl h, rfl, [], by simp⟩
    refine ⟨{ W1 with H := L2.upd W1.H D0 (.lst []), ws := D0 :: W1.ws, pv := D0 :: W1.pv }, C1, [], [], rfl, ?_, ex, rfl, rfl, upd_same, .nil, h0⟩
    refine Mem.repv (W := { W1 with H := L2.upd W1.H D0 (.lst []), ws := D0 :: W1.ws }) (p := W1.pv) (C := C1) ⟨fun b h => List.mem_cons_of_mem _ (s1.m.wrws b h), fun b h => List.mem_cons_of_mem _ (s1.m.pvws b h), s1.m.dis, fun b h => ?_, hn, fun i dc a fp h1 h2 h3 => ?_, s1.m.sep⟩ List.mem_cons_self fr.2.1
    · rcases List.mem_cons.mp h with e | e
      · show L2.upd W1.H D0 _ b ≠ none
        rw [e, upd_same]; simp
      · exact ex.there b (s1.m.dom b e)
    · obtain ⟨q1, q2⟩ := s1.m.cell i dc a fp h1 h2 h3
      exact ⟨q1.pers (ex.pers s1.m.wrws) fun b hb => upd_ne fun e => fr.2.1 (e ▸ q2 b hb), q2⟩
  · rintro i m H ⟨rfl, hi, W, C2, acc, us, rfl, m2, x2, hp2, ha2, hd2, hr2, hI⟩
    have hD0w : D0 ∈ W.ws := m2.pvws D0 (by rw [hp2]; exact List.mem_cons_self)
    have hD0r : D0 ∉ W.wr := fun z => m2.dis D0 z (by rw [hp2]; exact List.mem_cons_self)
    obtain ⟨hgo, hstop⟩ := hwk (W.pvS W1.pv) C2 x2 (m2.unpv hp2) (hok i acc C2 hI)
    by_cases hlt : i < items.length
    · refine .inr ⟨(hgo i hlt).1, St (i + 1), fun H' h' => ⟨items.length - (i + 1), by omega, rfl, hlt, h'⟩, fun v H' hy => ?_⟩
      obtain ⟨W3, e3, hH3, m3, d, hd, rd⟩ := (hgo i hlt).2 v H' hy
      subst hH3
      -- back within
      have k3 : D0 ∈ W3.ws := e3.wsk D0 hD0w (by show W.H D0 ≠ none; rw [hd2]; simp) hD0r
      have k4 : D0 ∉ W3.wr := fun z => by
        rcases e3.wrn D0 z with r | r
        · exact hD0r r
        · have r' : W.H D0 = none := r
          rw [hd2] at r'; cases r'
      have hpv3 : W3.pv = W1.pv := e3.pv
      have eW3 : W3.pvS W1.pv = W3 := by rw [← hpv3]
      have m3' : Mem K (W3.pvS (D0 :: W1.pv)) C2 := Mem.repv (W := W3) (p := W1.pv) (by rw [eW3]; exact m3) k3 k4
      have hd3 : W3.H D0 = some (.lst us) := e3.keep D0 _ hd2 hD0r
      have x3 : Ext W1 W3 := x2.trans e3
      have s3 : Slo K (W3.pvS (D0 :: W1.pv)) (wipeS S vs) (wipe σ vs) := (s1.s.inLc (W := W3.pvS (D0 :: W1.pv)) s1.m (by show Ext W1 (W3.pvS W1.pv); rw [eW3]; exact x3) rfl hD).wipe vs
      have r3 : Reps K (W3.pvS (D0 :: W1.pv)) us acc := Reps.mono (W := W) (fun b o h n => by
        obtain ⟨q1, q2⟩ := e3.pers (m2.unpv hp2).wrws b o h n
        exact ⟨q1, q2⟩) hr2
      have g3 : Gd.ok K (W3.pvS (D0 :: W1.pv)) := by rw [← hpv3]; exact Gd.pv (Gd.ext s1.g x3)
      have key : ∀ (W5 : Wd) (C5 : Cs), Ext (W3.pvS (D0 :: W1.pv)) W5 → Mem K W5 C5 → (I (i + 1) acc (C5.take C1.length) → St (i + 1) W5.H) ∧ ∀ (W6 : Wd) (C6 : Cs) (y : V) (e : D), Ext W5 W6 → W6.H = W5.H → Mem K W6 C6 → Rep K W6 y e → acc.length < 16777216 → I (i + 1) (acc ++ [e]) (C6.take C1.length) →
          ∃ acc', W5.H D0 = some (.lst acc') ∧ acc'.length < sizeLine ∧ St (i + 1) (L2.upd W5.H D0 (.lst (acc' ++ [y]))) := by
        intro W5 C5 x5 m5
        have hp5 : W5.pv = D0 :: W1.pv := x5.pv
        have hd5 : W5.H D0 = some (.lst us) := x5.keep D0 _ hd3 k4
        have x15 : Ext W1 (W5.pvS W1.pv) := by
          refine x3.trans ?_
          rw [← eW3]
          exact ⟨x5.keep, x5.there, x5.wsn, x5.wsk, x5.wrn, rfl, x5.as⟩
        refine ⟨fun hI5 => good W5 C5 (i + 1) acc us m5 x15 hp5 hd5 (Reps.mono (x5.pers m3'.wrws) r3) hI5, ?_⟩
        intro W6 C6 y e x6 hH m6 ry hz hI6
        refine ⟨us, hd5, by rw [ss, r3.len]; exact hz, ?_⟩
        have hp6 : W6.pv = D0 :: W1.pv := x6.pv.trans hp5
        have hd6 : W6.H D0 = some (.lst us) := by rw [hH]; exact hd5
        have hw6 : D0 ∈ W6.ws := m6.pvws D0 (by rw [hp6]; exact List.mem_cons_self)
        have hr6 : D0 ∉ W6.wr := fun z => m6.dis D0 z (by rw [hp6]; exact List.mem_cons_self)
        have x16 : Ext W1 (W6.pvS W1.pv) := x15.trans ⟨x6.keep, x6.there, x6.wsn, x6.wsk, x6.wrn, rfl, x6.as⟩
        rw [← hH]
        have pe : Pers W6 { W6 with H := L2.upd W6.H D0 (.lst (us ++ [y])) } := fun b o h n => ⟨(upd_ne (fun z => n (by rw [z]; exact hw6))).trans h, n⟩
        have r6 : Reps K W6 us acc := Reps.mono (x6.pers m5.wrws) (Reps.mono (x5.pers m3'.wrws) r3)
        refine good { W6 with H := L2.upd W6.H D0 (.lst (us ++ [y])) } C6 (i + 1) (acc ++ [e]) (us ++ [y]) ⟨m6.wrws, m6.pvws, m6.dis, fun b h => ?_, m6.len, fun j dc a fp h1 h2 h3 => ?_, m6.sep⟩ ?_ hp6 upd_same (Reps.mono pe (r6.app (.one ry))) hI6
        · by_cases z : b = D0
          · show L2.upd W6.H D0 _ b ≠ none
            rw [z, upd_same]; simp
          · show L2.upd W6.H D0 _ b ≠ none
            rw [upd_ne z]; exact m6.dom b h
        · obtain ⟨q1, q2⟩ := m6.cell j dc a fp h1 h2 h3
          exact ⟨q1.pers pe fun b hb => upd_ne fun z => hr6 (z ▸ q2 b hb), q2⟩
        · refine ⟨fun b o h n => ?_, fun b h => ?_, x16.wsn, x16.wsk, x16.wrn, rfl, x16.as⟩
          · show L2.upd W6.H D0 _ b = _
            rw [upd_ne (ne_of_none h hD)]
            exact x16.keep b o h n
          · show L2.upd W6.H D0 _ b ≠ none
            by_cases z : b = D0
            · rw [z, upd_same]; simp
            · rw [upd_ne z]; exact x16.there b h
      have z := hw v (wipe σ vs) W3.H (fun σ2 H2 => tt σ2 H2 fun b H3 => if b = true then te σ2 H3 fun y H4 => ∃ acc, H4 D0 = some (.lst acc) ∧ acc.length < sizeLine ∧ St (i + 1) (L2.upd H4 D0 (.lst (acc ++ [y]))) else St (i + 1) H3) ?_
      · rw [wipe_idem] at z
        exact z
      · refine hg (W3.pvS (D0 :: W1.pv)) (wipeS S vs) C2 (wipe σ vs) ⟨m3', s3, g3⟩ v (.of d) _ _ (Rep.mono (W := W3) (W' := W3.pvS (D0 :: W1.pv)) (Pers.of rfl rfl) rd) (hstep i acc C2 d hd hI) fun W4 S4 C4 σ4 x4 s4 q4 => ?_
        refine ht W4 S4 C4 σ4 s4 _ _ q4 fun b W5 C5 x5 s5 q5 => ?_
        cases b with
        | false =>
          rw [if_neg (by simp)] at q5 ⊢
          exact (key W5 C5 (x4.trans x5) s5.m).1 q5
        | true =>
          rw [if_pos rfl] at q5 ⊢
          refine he W5 S4 C5 σ4 s5 _ _ q5 fun y dv W6 C6 x6 s6 r6 q6 => ?_
          obtain ⟨e, W7, C7, x7, hH7, s7, r7, hz, hI7⟩ := frz_ok s6 r6 q6
          exact (key W6 C6 ((x4.trans x5).trans x6) s6.m).2 W7 C7 y e x7 hH7 s7.m r7 hz hI7
    · have e : i = items.length := by omega
      subst e
      refine .inl ⟨hstop, ?_⟩
      have hQ := hend acc C2 hI
      -- the list is a cell now
      let Wf : Wd := { H := W.H, ws := W.ws, wr := D0 :: W.wr, pv := W1.pv, As := W.As ++ [(D0, [D0])] }
      have pe : Pers W Wf := Pers.of rfl rfl
      have xf : Ext W1 Wf := ⟨x2.keep, x2.there, x2.wsn, x2.wsk, fun b h => by
        rcases List.mem_cons.mp h with z | z
        · exact .inr (z ▸ hD)
        · exact x2.wrn b z, rfl, [(D0, [D0])], by show W.As ++ _ = _; rw [ha2]⟩
      have mf : Mem K Wf (C2 ++ [.lst acc]) := by
        have old : ∀ i u, (C2 ++ [DC.lst acc])[i]? = some u → (i < C2.length ∧ C2[i]? = some u) ∨ (i = C2.length ∧ u = .lst acc) := fun i u h => by
          by_cases q : i < C2.length
          · rw [List.getElem?_append_left q] at h; exact .inl ⟨q, h⟩
          · rw [List.getElem?_append_right (by omega)] at h
            have e : i - C2.length = 0 := by
              by_cases r : i - C2.length = 0
              · exact r
              · rw [List.getElem?_eq_none (by simp; omega)] at h; cases h
            rw [e] at h
            exact .inr ⟨by omega, (Option.some.inj h).symm⟩
        have oldA : ∀ i u, (W.As ++ [(D0, [D0])])[i]? = some u → i < C2.length → W.As[i]? = some u := fun i u h q => by
          rw [List.getElem?_append_left (by rw [← m2.len]; exact q)] at h; exact h
        have newA : ∀ u, (W.As ++ [(D0, [D0])])[C2.length]? = some u → u = (D0, [D0]) := fun u h => by
          rw [m2.len, List.getElem?_append_right (Nat.le_refl _), Nat.sub_self] at h
          exact (Option.some.inj h).symm
        refine ⟨fun b h => ?_, fun b h => m2.pvws b (by rw [hp2]; exact List.mem_cons_of_mem _ h), fun b h z => ?_, m2.dom, ?_, fun i u a fp h1 h2 h3 => ?_, fun i j u u' a fp a' fp' hij h1 h2 h3 h4 h5 h6 b hb hb' => ?_⟩
        · rcases List.mem_cons.mp h with z | z
          · rw [z]; exact hD0w
          · exact m2.wrws b z
        · rcases List.mem_cons.mp h with y | y
          · exact (s1.m.fresh hD).2.2 (y ▸ z)
          · exact m2.dis b y (by rw [hp2]; exact List.mem_cons_of_mem _ z)
        · show (C2 ++ [_]).length = (W.As ++ [_]).length
          rw [List.length_append, List.length_append, m2.len]; rfl
        · rcases old i u h1 with ⟨q, r⟩ | ⟨q, r⟩
          · obtain ⟨q1, q2⟩ := m2.cell i u a fp r (oldA i _ h2 q) h3
            exact ⟨q1.pers pe fun _ _ => rfl, fun b hb => List.mem_cons_of_mem _ (q2 b hb)⟩
          · subst q r
            have e := newA _ h2
            cases e
            exact ⟨⟨rfl, us, hd2, Reps.mono pe hr2⟩, fun b hb => by rw [List.mem_singleton] at hb; rw [hb]; exact List.mem_cons_self⟩
        · rcases old i u h1 with ⟨q, r⟩ | ⟨q, r⟩
          · rcases old j u' h3 with ⟨q', r'⟩ | ⟨q', r'⟩
            · exact m2.sep i j u u' a fp a' fp' hij r h2 r' h4 (oldA i _ h5 q) (oldA j _ h6 q') b hb hb'
            · subst q'
              have e := newA _ h6
              cases e
              rw [List.mem_singleton] at hb'
              exact hD0r (hb' ▸ (m2.cell i u a fp r (oldA i _ h5 q) h2).2 b hb)
          · subst q
            have e := newA _ h5
            cases e
            rw [List.mem_singleton] at hb
            rcases old j u' h3 with ⟨q', r'⟩ | ⟨q', r'⟩
            · exact hD0r (hb ▸ (m2.cell j u' a' fp' r' (oldA j _ h6 q') h4).2 b hb')
            · exact hij q'.symm
      exact k (.ref D0) (.cel C2.length) Wf _ (e1.trans xf) ⟨mf, s1.s.mono s1.m xf, Gd.ext s1.g xf⟩ ⟨D0, [D0], by
        show (W.As ++ [(D0, [D0])])[C2.length]? = _
        rw [m2.len, List.getElem?_append_right (Nat.le_refl _), Nat.sub_self]; rfl, rfl⟩ hQ
end Z

set_option Elab.async false
set_option linter.all false
set_option maxRecDepth 100000
set_option maxHeartbeats 4000000
/-! ### judgements over trees: statements, loops, defs -/
namespace Z
open PySem PySem.Spec PyProof.Rows L2
structure DE where
  nx : Sl → Cs → Prop
  rt : DV → Cs → Prop
  bk : Sl → Cs → Prop := fun _ _ => False
  ct : Sl → Cs → Prop := fun _ _ => False
abbrev DTS := DE → Sl → Cs → Prop
structure EndsOk (K : PySem.W.Frag) [Gd K] (W : Wd) (D : Ends) (E : DE) : Prop where
  nx : ∀ W' S C σ, Ext W W' → Sta K W' S C σ → E.nx S C → D.nx σ W'.H
  rt : ∀ W' C v x, Ext W W' → Mem K W' C → RepV K W' v x → E.rt x C → D.rt v W'.H
  bk : ∀ W' S C σ, Ext W W' → Sta K W' S C σ → E.bk S C → D.bk σ W'.H
  ct : ∀ W' S C σ, Ext W W' → Sta K W' S C σ → E.ct S C → D.ct σ W'.H
theorem EndsOk.ext {K : PySem.W.Frag} [Gd K] {W W1 : Wd} {D : Ends} {E : DE} (k : EndsOk K W D E) (e : Ext W W1) : EndsOk K W1 D E :=
  ⟨fun W' S C σ e' => k.nx W' S C σ (e.trans e'), fun W' C v x e' => k.rt W' C v x (e.trans e'), fun W' S C σ e' => k.bk W' S C σ (e.trans e'), fun W' S C σ e' => k.ct W' S C σ (e.trans e')⟩
def RefS (K : PySem.W.Frag) [Gd K] (ts : TS) (d : DTS) : Prop := ∀ W S C σ, Sta K W S C σ → ∀ D E, d E S C → EndsOk K W D E → ts D σ W.H
structure QS (K : PySem.W.Frag) [Gd K] (X : Cx) (st : Stmt) (t : TS) (d : DTS) : Prop where
  p : PS X st t
  r : RefS K t d
structure QSs (K : PySem.W.Frag) [Gd K] (X : Cx) (st : List Stmt) (t : TS) (d : DTS) : Prop where
  p : PSs X st t
  r : RefS K t d
def dNext : DTS := fun E S C => E.nx S C
def dSeq (t u : DTS) : DTS := fun E S C => t { E with nx := u E } S C
def dBreak : DTS := fun E S C => E.bk S C
def dCont : DTS := fun E S C => E.ct S C
def dDrop (d : DTE) : DTS := fun E S C => d S C fun _ C1 => E.nx S C1
def dRet (d : DTE) : DTS := fun E S C => d S C E.rt
def dRetN : DTS := fun E _ C => E.rt (.of .non) C
def dIfS (c : DTT) (t u : DTS) : DTS := fun E S C => c S C fun b C1 => if b = true then t E S C1 else u E S C1
def dNever : DTS := fun _ _ _ => False
def dAsg (d : DTE) (g : DTG) : DTS := fun E S C => d S C fun x C1 => g x S C1 E.nx
def dAsg2 (d : DTE) (g1 g2 : DTG) : DTS := fun E S C => d S C fun x C1 => g1 x S C1 fun S1 C2 => g2 x S1 C2 E.nx
def dPar (i j : Nat) (d : DTA) : DTS := fun E S C => d S C fun xs C1 => match xs with | [x, y] => E.nx ((S.set i (some x)).set j (some y)) C1 | _ => False
def dAug (i : Nat) (d : DTE) (r : DR2) : DTS := fun E S C => match S[i]? with | some (some x) => d S C fun y C1 => r x y C1 fun z C2 => E.nx (S.set i (some z)) C2 | _ => False
section
variable {K : PySem.W.Frag} [Gd K] {X : Cx} {st : Stmt} {rest a b : List Stmt} {t u : TS} {dt du : DTS} {e e2 : Expr} {te : TE} {de : DTE} {g g2 : TG} {dg dg2 : DTG} {pos : Pos} {tc : TT} {dc : DTT} {c : Expr}
theorem qss_nil : QSs K X [] tNext dNext := ⟨pss_nil, fun W S C σ s D E q k => k.nx W S C σ .refl s q⟩
theorem refS_seq (h1 : RefS K t dt) (h2 : RefS K u du) : RefS K (tSeq t u) (dSeq dt du) := fun W S C σ s D E q k =>
  h1 W S C σ s { D with nx := u D } { E with nx := du E } q ⟨fun W' S' C' σ' e s' q' => h2 W' S' C' σ' s' D E q' (k.ext e), k.rt, k.bk, k.ct⟩
theorem qss_cons (h1 : QS K X st t dt) (h2 : QSs K X rest u du) : QSs K X (st :: rest) (tSeq t u) (dSeq dt du) := ⟨pss_cons h1.p h2.p, refS_seq h1.r h2.r⟩
theorem qss_one (h1 : QS K X st t dt) : QSs K X [st] t dt := ⟨pss_one h1.p, h1.r⟩
theorem qs_pass : QS K X (.Pass pos) tNext dNext := ⟨ps_pass, fun W S C σ s D E q k => k.nx W S C σ .refl s q⟩
theorem qs_break : QS K X (.Break pos) tBreak dBreak := ⟨ps_break, fun W S C σ s D E q k => k.bk W S C σ .refl s q⟩
theorem qs_continue : QS K X (.Continue pos) tCont dCont := ⟨ps_continue, fun W S C σ s D E q k => k.ct W S C σ .refl s q⟩
theorem qs_expr (he : QE K X e te de) (hs : swapsWith e none pos.line X.env = pure false := by rfl) : QS K X (.Expr e pos) (tDrop te) (dDrop de) := ⟨ps_expr he.p hs, fun W S C σ s D E q k =>
  he.r W S C σ s _ _ q fun v x W1 C1 e1 s1 _ q1 => k.nx W1 S C1 σ e1 s1 q1⟩
theorem qs_ret (he : QE K X e te de) : QS K X (.Return (some e) pos) (tRet te) (dRet de) := ⟨ps_ret he.p, fun W S C σ s D E q k =>
  he.r W S C σ s _ _ q fun v x W1 C1 e1 s1 r1 q1 => k.rt W1 C1 v x e1 s1.m r1 q1⟩
theorem qs_retN : QS K X (.Return none pos) tRetN dRetN := ⟨ps_retN, fun W S C σ s D E q k => k.rt W C .non (.of .non) .refl s.m Rep.non q⟩
theorem qs_if (hc : QT K X c tc dc) (ha : QSs K X a t dt) (hb : QSs K X b u du) : QS K X (.If c a b pos) (tIfS tc t u) (dIfS dc dt du) := ⟨ps_if hc.p ha.p hb.p, fun W S C σ s D E q k =>
  hc.r W S C σ s _ _ q fun b W1 C1 e1 s1 q1 => by
    cases b with
    | true => rw [if_pos rfl] at q1 ⊢; exact ha.r W1 S C1 σ s1 D E q1 (k.ext e1)
    | false => rw [if_neg (by simp)] at q1 ⊢; exact hb.r W1 S C1 σ s1 D E q1 (k.ext e1)⟩
theorem qs_never : QS K X st tNever dNever := ⟨ps_never, fun W S C σ s D E q k => q.elim⟩
theorem refS_asg (he : RefE K te de) (hg : RefG K g dg) : RefS K (tAsg te g) (dAsg de dg) := fun W S C σ s D E q k =>
  he W S C σ s _ _ q fun v x W1 C1 e1 s1 r1 q1 => hg W1 S C1 σ s1 v x _ _ r1 q1 fun W2 S2 C2 σ2 e2 s2 q2 => k.nx W2 S2 C2 σ2 (e1.trans e2) s2 q2
theorem qs_set {i : Nat} {x : Str} {pos' : Pos} (hN : X.N.Nodup) (hi : X.N[i]? = some x) (hx : Loc X.env.scope x) (he : QE K X e te de) (hs : swapsWith e (some (.Name x pos')) pos.line X.env = pure false := by rfl) (hf : X.fn x = true ∨ X.env.scope.names.lookup x = some .local := by first | exact .inl rfl | exact .inr rfl | assumption) :
    QS K X (.Assign [.Name x pos'] e pos) (tAsg te (gName i)) (dAsg de (dName i)) := ⟨ps_set hN hi hx he.p hs hf, refS_asg he.r refG_name⟩
theorem qs_setF {i : Nat} {x : Str} {pos' : Pos} (hN : X.N.Nodup) (hi : X.N[i]? = some x) (hx : Loc X.env.scope x) (he : QE K X e te de) (hs : swapsWith e (some (.Name x pos')) pos.line X.env = pure false := by rfl) (hf : X.fn x = true ∨ X.env.scope.names.lookup x = some .local := by first | exact .inl rfl | exact .inr rfl | assumption) :
    QS K X (.Assign [.Name x pos'] e pos) (tAsg te (gName i)) (dAsg de (dNameF i)) := ⟨ps_set hN hi hx he.p hs hf, refS_asg he.r refG_nameF⟩
theorem qs_asg {tg : Expr} (he : QE K X e te de) (hg : QG K X tg g dg) (hs : swapsWithSole [tg] e pos.line X.env = pure false := by rfl) (hw : swappedStores [tg] e X.env = pure none := by rfl)
    (h1 : (assignEach [tg] X.env).map (·.2) = [assign tg X.env] := by rfl) : QS K X (.Assign [tg] e pos) (tAsg te g) (dAsg de dg) := ⟨ps_asg he.p hg.p hs hw h1, refS_asg he.r hg.r⟩
theorem qs_asg2 {t1 t2 : Expr} (he : QE K X e te de) (h1 : QG K X t1 g dg) (h2 : QG K X t2 g2 dg2) (ha : (assignEach [t1, t2] X.env).map (·.2) = [assign t1 X.env, assign t2 X.env] := by rfl) (hw : swappedStores [t1, t2] e X.env = pure none := by rfl) :
    QS K X (.Assign [t1, t2] e pos) (tAsg2 te g g2) (dAsg2 de dg dg2) := ⟨ps_asg2 he.p h1.p h2.p ha hw, fun W S C σ s D E q k =>
  he.r W S C σ s _ _ q fun v x W1 C1 e1 s1 r1 q1 => h1.r W1 S C1 σ s1 v x _ _ r1 q1 fun W2 S2 C2 σ2 e2 s2 q2 => h2.r W2 S2 C2 σ2 s2 v x _ _ (r1.mono s1.m e2) q2 fun W3 S3 C3 σ3 e3 s3 q3 => k.nx W3 S3 C3 σ3 ((e1.trans e2).trans e3) s3 q3⟩
theorem qs_par {i j : Nat} {x y : Str} {a b : Expr} {ta : TA} {da : DTA} {px py pt : Pos} {kt k2 pt2} (hc : X.calm = true) (hN : X.N.Nodup) (hi : X.N[i]? = some x) (hj : X.N[j]? = some y) (hij : i ≠ j)
    (hx : X.env.scope.names.lookup x = some .local) (hy : X.env.scope.names.lookup y = some .local) (ha : QA K X [a, b] 2 ta da)
    (hw : swappedStores [.Tuple [.Name x px, .Name y py] kt pt] (.Tuple [a, b] k2 pt2) X.env = pure (some [x, y]))
    (hs : swapsWithSole [.Tuple [.Name x px, .Name y py] kt pt] (.Tuple [a, b] k2 pt2) pos.line X.env = pure false := by rfl) :
    QS K X (.Assign [.Tuple [.Name x px, .Name y py] kt pt] (.Tuple [a, b] k2 pt2) pos) (tPar i j ta) (dPar i j da) := ⟨ps_par hc hN hi hj hij hx hy ha.p hw hs, fun W S C σ s D E q k =>
  ha.r W S C σ s _ _ q fun vs xs W1 C1 hl e1 s1 r1 q1 => by
    split at q1
    · obtain ⟨v, w, rfl, r2, r3⟩ := repVs2 r1
      exact ⟨v, w, rfl, k.nx W1 _ C1 _ e1 ⟨s1.m, (s1.s.set r2).set r3, s1.g⟩ q1⟩
    · exact q1.elim⟩
theorem qs_aug {i : Nat} {x : Str} {op : Operator} {r : R2} {dr : DR2} {pos' : Pos} (hN : X.N.Nodup) (hi : X.N[i]? = some x) (hx : Loc X.env.scope x) (he : QE K X e te de) (ho : QOp K X (inplaceOp op) r dr) (hf : X.fn x = true ∨ X.env.scope.names.lookup x = some .local := by first | exact .inl rfl | exact .inr rfl | assumption) :
    QS K X (.AugAssign (.Name x pos') op e pos) (tAug i te r) (dAug i de dr) := ⟨ps_aug hN hi hx he.p ho.p hf, fun W S C σ s D E q k => by
  unfold dAug at q
  split at q
  · rename_i y hy
    obtain ⟨v, h1, h2⟩ := s.s.get i _ hy
    exact ⟨v, h1, he.r W S C σ s _ _ q fun w z W1 C1 e1 s1 r1 q1 => ho.r W1 S C1 σ s1 v w y z _ _ (h2.mono s.m e1) r1 q1 fun w2 z2 W2 C2 e2 s2 r2 q2 => k.nx W2 _ C2 _ (e1.trans e2) ⟨s2.m, s2.s.set r2, s2.g⟩ q2⟩
  · exact q.elim⟩
/-! loops -/
def dFor (di : DTI) (dg : DTG) (db : DTS) : DTS := fun E S C => di S C fun items ok C1 => ∃ I : Nat → Sl → Cs → Prop, I 0 S C1 ∧ (∀ i S C, I i S C → ok C) ∧
  (∀ i d S C, items[i]? = some d → I i S C → dg (.of d) S C fun S2 C2 => db { E with nx := fun S3 C3 => I (i + 1) (cutL C1.length S3) (C3.take C1.length), ct := fun S3 C3 => I (i + 1) (cutL C1.length S3) (C3.take C1.length), bk := E.nx } S2 C2) ∧
  ∀ S C, I items.length S C → E.nx S C
theorem qs_for {tg iter : Expr} {wi : TI} {di : DTI} (hp : PassesOwn (model X.prog X.w) X.A X.env X.xe) (hc : X.calm = true) (hi : QI K X tg iter wi di) (hg : QG K X tg g dg) (hb : QSs K X a t dt)
    (hs : ∀ x, foldedSetIterable iter X.env x = pure x := by intro _; rfl) : QS K X (.For tg iter a [] pos) (tFor wi g t) (dFor di dg dt) := ⟨ps_for hp hc hi.p hg.p hb.p hs, fun W S C σ st D E q k => by
  refine hi.r W S C σ st _ _ q fun J W1 C1 items ok e1 s1 hwk q1 => ?_
  obtain ⟨I, h0, hok, hstep, hend⟩ := q1
  have hn : C1.length = W1.As.length := s1.m.len
  let St := fun (i : Nat) (σ : L2.St) (H : Hp) => ∃ (W : Wd) (S : Sl) (C : Cs), W.H = H ∧ Ext W1 W ∧ W.As = W1.As ∧ Sta K W S C σ ∧ I i S C
  have good : ∀ (i : Nat) (W' : Wd) (S' : Sl) (C' : Cs) (σ' : L2.St), Ext W1 W' → Sta K W' S' C' σ' → I i (cutL C1.length S') (C'.take C1.length) → St i σ' W'.H := by
    intro i W' S' C' σ' x s hI
    obtain ⟨more, ha⟩ := x.as
    have hA : W'.As.take C1.length = W1.As := by
      rw [ha, hn, List.take_left']
      rfl
    have xc : Ext W1 { W' with As := W'.As.take C1.length } := ⟨x.keep, x.there, x.wsn, x.wsk, x.wrn, x.pv, [], by show W'.As.take C1.length = _; rw [hA, List.append_nil]⟩
    exact ⟨{ W' with As := W'.As.take C1.length }, cutL C1.length S', C'.take C1.length, rfl, xc, hA, ⟨s.m.cut, s.s.cut (by rw [ha, hn, List.length_append]; omega), Gd.ext s1.g xc⟩, hI⟩
  refine ⟨fun i m σ H => m = items.length - i ∧ i ≤ items.length ∧ St i σ H, ⟨items.length, by simp, Nat.zero_le _, W1, S, C1, rfl, .refl, rfl, s1, h0⟩, ?_⟩
  rintro i m σ2 H ⟨rfl, hil, W2, S2, C2, rfl, x2, a2, s2, hI⟩
  obtain ⟨hgo, hstop⟩ := hwk W2 C2 x2 s2.m (hok i S2 C2 hI)
  by_cases hlt : i < items.length
  · refine .inr ⟨(hgo i hlt).1, St (i + 1), fun σ' H' h' => ⟨items.length - (i + 1), by omega, rfl, hlt, h'⟩, fun v H' hy => ?_⟩
    obtain ⟨W3, e3, hH3, m3, d, hd, rd⟩ := (hgo i hlt).2 v H' hy
    subst hH3
    refine hg.r W3 S2 C2 σ2 ⟨m3, s2.s.mono s2.m e3, Gd.ext s2.g e3⟩ v (.of d) _ _ rd (hstep i d S2 C2 hd hI) fun W4 S4 C4 σ4 x4 s4 q4 => ?_
    have x14 := x2.trans (e3.trans x4)
    refine hb.r W4 S4 C4 σ4 s4 _ _ q4 ⟨fun W5 S5 C5 σ5 x5 s5 q5 => good (i + 1) W5 S5 C5 σ5 (x14.trans x5) s5 q5, fun W5 C5 v x x5 m5 r5 q5 => k.rt W5 C5 v x (e1.trans (x14.trans x5)) m5 r5 q5, fun W5 S5 C5 σ5 x5 s5 q5 => k.nx W5 S5 C5 σ5 (e1.trans (x14.trans x5)) s5 q5, fun W5 S5 C5 σ5 x5 s5 q5 => good (i + 1) W5 S5 C5 σ5 (x14.trans x5) s5 q5⟩
  · have e : i = items.length := by omega
    subst e
    exact .inl ⟨hstop, k.nx W2 S2 C2 σ2 (e1.trans x2) s2 (hend S2 C2 hI)⟩⟩
def dWhile (c : DTT) (db : DTS) : DTS := fun E S C => ∃ I : Nat → Sl → Cs → Prop, (∃ m, I m S C) ∧ ∀ m S2 C2, I m S2 C2 → c S2 C2 fun b C3 => if b = true then
  db { E with nx := fun S4 C4 => ∃ m', m' < m ∧ I m' (cutL C.length S4) (C4.take C.length), ct := fun S4 C4 => ∃ m', m' < m ∧ I m' (cutL C.length S4) (C4.take C.length), bk := E.nx } S2 C3 else E.nx S2 C3
theorem qs_while (hp : PassesOwn (model X.prog X.w) X.A X.env X.xe) (hc : QT K X c tc dc) (hb : QSs K X a t dt) : QS K X (.While c a [] pos) (tWhile tc t) (dWhile dc dt) := ⟨ps_while hp hc.p hb.p, fun W1 S C1 σ s1 D E q k => by
  obtain ⟨I, ⟨m0, h0⟩, hstep⟩ := q
  have hn : C1.length = W1.As.length := s1.m.len
  let St := fun (i : Nat) (σ : L2.St) (H : Hp) => ∃ (W : Wd) (S : Sl) (C : Cs), W.H = H ∧ Ext W1 W ∧ W.As = W1.As ∧ Sta K W S C σ ∧ I i S C
  have good : ∀ (i : Nat) (W' : Wd) (S' : Sl) (C' : Cs) (σ' : L2.St), Ext W1 W' → Sta K W' S' C' σ' → I i (cutL C1.length S') (C'.take C1.length) → St i σ' W'.H := by
    intro i W' S' C' σ' x s hI
    obtain ⟨more, ha⟩ := x.as
    have hA : W'.As.take C1.length = W1.As := by
      rw [ha, hn, List.take_left']
      rfl
    have xc : Ext W1 { W' with As := W'.As.take C1.length } := ⟨x.keep, x.there, x.wsn, x.wsk, x.wrn, x.pv, [], by show W'.As.take C1.length = _; rw [hA, List.append_nil]⟩
    exact ⟨{ W' with As := W'.As.take C1.length }, cutL C1.length S', C'.take C1.length, rfl, xc, hA, ⟨s.m.cut, s.s.cut (by rw [ha, hn, List.length_append]; omega), Gd.ext s1.g xc⟩, hI⟩
  refine ⟨St, ⟨m0, W1, S, C1, rfl, .refl, rfl, s1, h0⟩, ?_⟩
  rintro m σ2 H ⟨W2, S2, C2, rfl, x2, a2, s2, hI⟩
  refine hc.r W2 S2 C2 σ2 s2 _ _ (hstep m S2 C2 hI) fun b W3 C3 x3 s3 q3 => ?_
  cases b with
  | true =>
    rw [if_pos rfl] at q3 ⊢
    have x13 := x2.trans x3
    refine ⟨fun σ' H' => ∃ m', m' < m ∧ St m' σ' H', fun _ _ h => h, hb.r W3 S2 C3 σ2 s3 _ _ q3 ⟨fun W5 S5 C5 σ5 x5 s5 q5 => ?_, fun W5 C5 v x x5 m5 r5 q5 => k.rt W5 C5 v x (x13.trans x5) m5 r5 q5, fun W5 S5 C5 σ5 x5 s5 q5 => k.nx W5 S5 C5 σ5 (x13.trans x5) s5 q5, fun W5 S5 C5 σ5 x5 s5 q5 => ?_⟩⟩
    all_goals
      obtain ⟨m', hm, hI'⟩ := q5
      exact ⟨m', hm, good m' W5 S5 C5 σ5 (x13.trans x5) s5 hI'⟩
  | false =>
    rw [if_neg (by simp)] at q3 ⊢
    exact k.nx W3 S2 C3 σ2 (x2.trans x3) s3 q3⟩
/-! comprehensions, as expressions and as a name's value -/
theorem qts_nil : QTs K X [] tYes dYes := ⟨pts_nil, fun W S C σ s QD Q q k => k true W C .refl s q⟩
theorem qts_one (h : QT K X c tc dc) : QTs K X [c] tc dc := ⟨pts_one h.p, h.r⟩
theorem qe_lc {elt tg iter : Expr} {ifs : List Expr} {scope : Scope} {own : List (Str × Nat)} {wi : TI} {di : DTI} {tt : TT} {dt : DTT} (hc : X.calm = true) (hN : X.N.Nodup) (hi : QI K X tg iter wi di) (ok : BlkOk X.N X.env.scope scope own)
    (hg : ∀ (s : Shared) (H : Hp) (C : Addr) (cl : List (Str × Addr)) (fp : List Addr), QG K (X.blk s H scope (compEnvC scope cl C X.env) fp) tg g dg) (hw : GOwn g (own.map (·.2))) (ht : ∀ (s : Shared) (H : Hp) (C : Addr) (cl : List (Str × Addr)) (fp : List Addr), QTs K (X.blk s H scope (compEnvC scope cl C X.env) fp) ifs tt dt)
    (he : ∀ (s : Shared) (H : Hp) (C : Addr) (cl : List (Str × Addr)) (fp : List Addr), QE K (X.blk s H scope (compEnvC scope cl C X.env) fp) elt te de) (hs : ∀ x, foldedSetIterable iter X.env x = pure x := by intro _; rfl) (s0 : Shared := by assumption) :
    QE K X (.ListComp elt [⟨tg, iter, ifs, 0⟩] scope pos) (tLc wi g tt te (own.map (·.2))) (dLc di dg dt de (own.map (·.2))) :=
  ⟨pe_lc hc hN hi.p ok (fun s H C cl fp => (hg s H C cl fp).p) (fun s H C cl fp => (ht s H C cl fp).p) (fun s H C cl fp => (he s H C cl fp).p) hs, refE_lc hi.r (hg s0 (fun _ => none) 0 [] []).r hw (ht s0 (fun _ => none) 0 [] []).r (he s0 (fun _ => none) 0 [] []).r⟩
theorem qs_setLc {i : Nat} {y : Str} {py : Pos} {elt tg iter : Expr} {ifs : List Expr} {scope : Scope} {own : List (Str × Nat)} {spos : Pos} {wi : TI} {di : DTI} {tt : TT} {dt : DTT} {dgi : DTG} (hc : X.calm = true) (hN : X.N.Nodup) (hy : X.N[i]? = some y) (hyl : X.env.scope.names.lookup y = some .local)
    (hsw : swapsWith (.ListComp elt [⟨tg, iter, ifs, 0⟩] scope pos) (some (.Name y py)) spos.line X.env = pure true) (hi : QI K X tg iter wi di) (ok : BlkOk X.N X.env.scope scope own)
    (hg : ∀ (s : Shared) (H : Hp) (C : Addr) (cl : List (Str × Addr)) (fp : List Addr), QG K (X.blk s H scope (compEnvC scope cl C X.env) fp) tg g dg) (hw : GOwn g (own.map (·.2))) (ht : ∀ (s : Shared) (H : Hp) (C : Addr) (cl : List (Str × Addr)) (fp : List Addr), QTs K (X.blk s H scope (compEnvC scope cl C X.env) fp) ifs tt dt)
    (he : ∀ (s : Shared) (H : Hp) (C : Addr) (cl : List (Str × Addr)) (fp : List Addr), QE K (X.blk s H scope (compEnvC scope cl C X.env) fp) elt te de) (hgi : RefG K (gName i) dgi) (hs : ∀ x, foldedSetIterable iter X.env x = pure x := by intro _; rfl) (s0 : Shared := by assumption) :
    QS K X (.Assign [.Name y py] (.ListComp elt [⟨tg, iter, ifs, 0⟩] scope pos) spos) (tAsg (tLc wi g tt te (own.map (·.2))) (gName i)) (dAsg (dLc di dg dt de (own.map (·.2))) dgi) :=
  ⟨ps_setLc hc hN hy hyl hsw hi.p ok (fun s H C cl fp => (hg s H C cl fp).p) (fun s H C cl fp => (ht s H C cl fp).p) (fun s H C cl fp => (he s H C cl fp).p) hs, refS_asg (refE_lc hi.r (hg s0 (fun _ => none) 0 [] []).r hw (ht s0 (fun _ => none) 0 [] []).r (he s0 (fun _ => none) 0 [] []).r) hgi⟩
/-! methods of lists -/
abbrev DRM := DV → List DV → Cs → (DV → Cs → Prop) → Prop
def RefM (K : PySem.W.Frag) [Gd K] (r : V → List V → Hp → VK → Prop) (d : DRM) : Prop := ∀ W S C σ, Sta K W S C σ → ∀ v vs x xs QD Q, RepV K W v x → RepVs K W vs xs → d x xs C QD → KV K W S σ QD Q → r v vs W.H Q
def dBM (dm : DRM) (d : DTE) (da : DTA) : DTE := fun S C Q => d S C fun x C1 => match rdL x C1 with | some _ => da S C1 fun xs C2 => dm x xs C2 Q | none => False
theorem refE_bm {n : Nat} {to : TE} {dO : DTE} {ta : TA} {da : DTA} {r : V → List V → Hp → VK → Prop} {dm : DRM} (hm : RefM K r dm) (ho : RefE K to dO) (ha : RefA K n ta da) : RefE K (tBM K "list" r to ta) (dBM dm dO da) := fun W S C σ s QD Q q k =>
  ho W S C σ s _ _ q fun v x W1 C1 e1 s1 r1 q1 => by
    split at q1
    · rename_i l hl
      obtain ⟨p, us, rfl, h1, h2⟩ := rdL_ok s1.m r1 hl
      exact ⟨.inl ⟨rfl, us, SqL.of h1⟩, ha W1 S C1 σ s1 _ _ q1 fun vs xs W2 C2 hn e2 s2 r2 q2 => hm W2 S C2 σ s2 _ vs x xs _ _ (r1.mono s1.m e2) r2 q2 (KV.ext k (e1.trans e2))⟩
    · exact q1.elim
theorem refE_bm0 {to : TE} {dO : DTE} {r : V → List V → Hp → VK → Prop} {dm : DRM} (hm : RefM K r dm) (ho : RefE K to dO) : RefE K (tBM0 K "list" r to) (dBM dm dO dNil) := fun W S C σ s QD Q q k =>
  ho W S C σ s _ _ q fun v x W1 C1 e1 s1 r1 q1 => by
    split at q1
    · rename_i l hl
      obtain ⟨p, us, rfl, h1, h2⟩ := rdL_ok s1.m r1 hl
      exact ⟨.inl ⟨rfl, us, SqL.of h1⟩, hm W1 S C1 σ s1 _ [] x [] _ _ r1 .nil q1 (KV.ext k e1)⟩
    · exact q1.elim
theorem qe_lm {n : Nat} {o : Expr} {es : List Expr} {name : Str} {id : String} {apos cpos : Pos} {to : TE} {dO : DTE} {ta : TA} {da : DTA} {r : V → List V → Hp → VK → Prop} {dm : DRM} (hK : X.K = K) (p : PE X (.Call (.Attribute o name apos) (e :: es) [] cpos) (tBM X.K "list" r to ta)) (hm : RefM K r dm) (ho : QE K X o to dO) (ha : QA K X (e :: es) n ta da) :
    QE K X (.Call (.Attribute o name apos) (e :: es) [] cpos) (tBM K "list" r to ta) (dBM dm dO da) := ⟨by subst hK; exact p, refE_bm hm ho.r ha.r⟩
theorem qe_bmL {n : Nat} {o : Expr} {es : List Expr} {name : Str} {id : String} {apos cpos : Pos} {to : TE} {dO : DTE} {ta : TA} {da : DTA} {r : V → List V → Hp → VK → Prop} {dm : DRM} (hK : X.K = K) (slot : Slot "list" name id) (hty : typeOf (.builtin id) = pure (.type "method_descriptor")) (hm : MtR X id r) (hr : RefM K r dm) (ho : QE K X o to dO) (ha : QA K X (e :: es) n ta da)
    (hbase : attributeBase o name X.env (eval o X.env) = eval o X.env := by rfl)
    (hfew : ((backTo cpos (starEach (e :: es) X.env)).all (fun x => !x.1) && (backToKw cpos (keywordEach [] X.env)).all (fun x => x.1.isSome)
      && decide ((e :: es).length + ([] : List Keyword).length + (if ([] : List Keyword).isEmpty then 0 else 1) < 30)) = true := by rfl)
    (hline : (apos.endLine == cpos.line) = true := by rfl) (hs : starEach (e :: es) X.env = (false, eval e X.env) :: starEach es X.env := by rfl) (hplain : (backTo cpos (starEach es X.env)).any (·.1) = false := by rfl) :
    QE K X (.Call (.Attribute o name apos) (e :: es) [] cpos) (tBM K "list" r to ta) (dBM dm dO da) := ⟨by subst hK; exact pe_bm PySem.F.plainAttrs_list slot hty hm ho.p ha.p hbase hfew hline hs hplain, refE_bm hr ho.r ha.r⟩
theorem qe_bmL0 {o : Expr} {name : Str} {id : String} {apos cpos : Pos} {to : TE} {dO : DTE} {r : V → List V → Hp → VK → Prop} {dm : DRM} (hK : X.K = K) (slot : Slot "list" name id) (hty : typeOf (.builtin id) = pure (.type "method_descriptor")) (hm : MtR X id r) (hr : RefM K r dm) (ho : QE K X o to dO)
    (hbase : attributeBase o name X.env (eval o X.env) = eval o X.env := by rfl) (hline : (apos.endLine == cpos.line) = true := by rfl) :
    QE K X (.Call (.Attribute o name apos) [] [] cpos) (tBM0 K "list" r to) (dBM dm dO dNil) := ⟨by subst hK; exact pe_bm0 PySem.F.plainAttrs_list slot hty hm ho.p hbase hline, refE_bm0 hr ho.r⟩
def setL (C : Cs) (i : Nat) (f : List D → List D) (k : List D → Cs → Prop) : Prop := match C[i]? with
  | some (.lst l) => k l (C.set i (.lst (f l)))
  | some (.pl l) => k l (C.set i (.pl (f l)))
  | _ => False
theorem setL_ok {W : Wd} {S : Sl} {C : Cs} {σ : L2.St} {i : Nat} {v : V} {f : List D → List D} {k : List D → Cs → Prop} (s : Sta K W S C σ) (r : RepV K W v (.cel i)) (h : setL C i f k) :
    ∃ a us l C', v = .ref a ∧ W.H a = some (.lst us) ∧ Reps K W us l ∧ k l C' ∧ ∀ us', Reps K W us' (f l) → Ext W { W with H := L2.upd W.H a (.lst us') } ∧ Sta K { W with H := L2.upd W.H a (.lst us') } S C' σ := by
  obtain ⟨a, fp, h1, rfl⟩ := r
  have go : ∀ dc l, C[i]? = some dc → cellL dc = some l → k l (C.set i (cellTo dc (f l))) → ∃ a' us l C', V.ref a = .ref a' ∧ W.H a' = some (.lst us) ∧ Reps K W us l ∧ k l C' ∧ ∀ us', Reps K W us' (f l) → Ext W { W with H := L2.upd W.H a' (.lst us') } ∧ Sta K { W with H := L2.upd W.H a' (.lst us') } S C' σ := by
    intro dc l hc hl hk
    have hi : i < W.As.length := by rw [← s.m.len]; exact (List.getElem?_eq_some_iff.mp hc).1
    have lv : live dc := by cases dc <;> first | exact trivial | cases hl
    obtain ⟨q1, q2⟩ := s.m.cell i dc a fp hc h1 lv
    have q3 : fp = [a] ∧ ∃ us, W.H a = some (.lst us) ∧ Reps K W us l := by
      cases dc with
      | lst x => cases hl; exact q1
      | pl x => cases hl; exact q1
      | abs P st => cases hl
      | dead => cases hl
      | emp c => cases hl
      | dob c f kvs => cases hl
      | dct kvs => cases hl
    obtain ⟨rfl, us, g1, g2⟩ := q3
    refine ⟨a, us, l, _, rfl, g1, g2, hk, fun us' r' => ?_⟩
    obtain ⟨a2, us2, e1, e2, e3, e4, e5, e6⟩ := s.m.putL hc hl r'
    rw [h1] at e1
    cases e1
    exact ⟨e5, e6, s.s.mono s.m e5, Gd.ext s.g e5⟩
  unfold setL at h
  split at h
  · rename_i l hc; exact go _ l hc rfl h
  · rename_i l hc; exact go _ l hc rfl h
  · exact h.elim
def dAppend : DRM := fun x xs C Q => match x, xs with | .cel i, [y] => frz y C fun d C1 => setL C1 i (· ++ [d]) fun l C2 => Z16 (l.length + 1) ∧ Q (.of .non) C2 | _, _ => False
theorem refM_append : RefM K rAppend dAppend := fun W S C σ s v vs x xs QD Q rx rs q k => by
  unfold dAppend at q
  split at q
  · obtain ⟨u, rfl, r0⟩ := repVs1 rs
    obtain ⟨d, W1, C1, e1, hH, s1, r1, q1⟩ := frz_ok s r0 q
    obtain ⟨a, us, l, C2, rfl, h1, h2, ⟨hz, q2⟩, h3⟩ := setL_ok s1 (rx.mono s.m e1) q1
    rw [← hH]
    refine ⟨a, us, u, rfl, rfl, h1, by rw [ss, h2.len]; omega, ?_⟩
    obtain ⟨x2, s2⟩ := h3 (us ++ [u]) (h2.app (.one r1))
    exact k.at (e1.trans x2) s2 .non q2
  · exact q.elim
def dExtend : DRM := fun x xs C Q => match x, xs with | .cel i, [y] => (match rdL y C with | some m => setL C i (· ++ m) fun l C2 => Z16 (l.length + m.length) ∧ Q (.of .non) C2 | none => False) | _, _ => False
theorem refM_extend : RefM K rExtend dExtend := fun W S C σ s v vs x xs QD Q rx rs q k => by
  unfold dExtend at q
  split at q
  · split at q
    · rename_i m hm
      obtain ⟨u, rfl, r0⟩ := repVs1 rs
      obtain ⟨b, ws, rfl, g1, g2⟩ := rdL_ok s.m r0 hm
      obtain ⟨a, us, l, C2, rfl, h1, h2, ⟨hz, q2⟩, h3⟩ := setL_ok s rx q
      refine ⟨a, b, us, ws, rfl, rfl, h1, g1, line_of (by rw [h2.len, g2.len]; exact hz), ?_⟩
      obtain ⟨x2, s2⟩ := h3 (us ++ ws) (h2.app g2)
      exact k.at x2 s2 .non q2
    · exact q.elim
  · exact q.elim
def dClear : DRM := fun x xs C Q => match x, xs with | .cel i, [] => setL C i (fun _ => []) fun _ C2 => Q (.of .non) C2 | _, _ => False
theorem refM_clear : RefM K rClear dClear := fun W S C σ s v vs x xs QD Q rx rs q k => by
  unfold dClear at q
  split at q
  · cases rs
    obtain ⟨a, us, l, C2, rfl, h1, h2, q2, h3⟩ := setL_ok s rx q
    obtain ⟨x2, s2⟩ := h3 [] .nil
    exact ⟨a, us, rfl, rfl, h1, k.at x2 s2 .non q2⟩
  · exact q.elim
def dReverse : DRM := fun x xs C Q => match x, xs with | .cel i, [] => setL C i (·.reverse) fun _ C2 => Q (.of .non) C2 | _, _ => False
theorem refM_reverse : RefM K rReverse dReverse := fun W S C σ s v vs x xs QD Q rx rs q k => by
  unfold dReverse at q
  split at q
  · cases rs
    obtain ⟨a, us, l, C2, rfl, h1, h2, q2, h3⟩ := setL_ok s rx q
    obtain ⟨x2, s2⟩ := h3 us.reverse h2.rev
    exact ⟨a, us, rfl, rfl, h1, k.at x2 s2 .non q2⟩
  · exact q.elim
/-- o[i] = v -/
def dSub (d1 d2 : DTE) : DTG := fun y S C k => d1 S C fun x C1 => d2 S C1 fun i C2 => match x, i with
  | .cel c, .of (.int n) => frz y C2 fun d C3 => (match rdL (.cel c) C3 with | some l => ∃ j, ixN l.length n = some j ∧ setL C3 c (fun l => l.set j d) fun _ C4 => k S C4 | none => False)
  | _, _ => False
theorem refG_sub {to ti : TE} {d1 d2 : DTE} (h1 : RefE K to d1) (h2 : RefE K ti d2) : RefG K (gSub to ti rSetL) (dSub d1 d2) := fun W S C σ s v y QD Q ry q k =>
  h1 W S C σ s _ _ q fun o x W1 C1 e1 s1 r1 q1 => h2 W1 S C1 σ s1 _ _ q1 fun iv z W2 C2 e2 s2 r2 q2 => by
    split at q2
    · cases r2
      obtain ⟨d, W3, C3, e3, hH, s3, r3, q3⟩ := frz_ok s2 ((ry.mono s.m e1).mono s1.m e2) q2
      split at q3
      · rename_i l hl
        obtain ⟨j, hj, q4⟩ := q3
        have r1' := (r1.mono s1.m e2).mono s2.m e3
        obtain ⟨p, us0, e0, g1, g2⟩ := rdL_ok s3.m r1' hl
        obtain ⟨a, us, l', C4, rfl, h1, h2, q5, h3⟩ := setL_ok s3 r1' q4
        cases e0
        rw [h1] at g1
        cases g1
        obtain ⟨x4, s4⟩ := h3 (_) (h2.set j r3)
        rw [← hH]
        exact ⟨_, _, _, j, rfl, rfl, h1, by rw [g2.len]; exact hj, k _ _ _ _ ((e1.trans e2).trans (e3.trans x4)) s4 q5⟩
      · exact q3.elim
    · exact q2.elim
end
end Z

set_option Elab.async false
set_option linter.all false
set_option maxRecDepth 100000
set_option maxHeartbeats 4000000
/-! ### defs and their calls over trees -/
namespace Z
open PySem PySem.Spec PyProof.Rows L2
abbrev DSp := List DV → Cs → (DV → Cs → Prop) → Prop
/-- only the cells are written -/
def Tight (W : Wd) (C : Cs) : Prop := ∀ b ∈ W.wr, ∃ (i : Nat) (dc : DC) (a : Addr) (fp : List Addr), C[i]? = some dc ∧ live dc ∧ W.As[i]? = some (a, fp) ∧ b ∈ fp
def rawSp (K : PySem.W.Frag) (n : Nat) (d : DSp) : Sp := fun vs H Q _ => vs.length = n ∧ ∃ W C xs, W.H = H ∧ W.pv = [] ∧ Mem K W C ∧ Tight W C ∧ RepVs K W vs xs ∧ ∃ post : DV → Cs → Prop, d xs C post ∧ ∀ r C', post r C' → ∀ W' v, Ext W W' → Mem K W' C' → RepV K W' v r → Q v W'.H
/-- how a def ends -/
def exitD (k : Nat) (post : DV → Cs → Prop) : DV → Cs → Prop := fun r C' => match r with
  | .of d => post (.of d) (C'.take k)
  | .cel j => if j < k then post (.cel j) (C'.take k) else (match C'[j]? with | some (.lst l) => post (.cel k) (C'.take k ++ [.lst l]) | _ => False)
  | _ => False
def startD (m : Nat) (xs : List DV) : Sl := xs.map some ++ List.replicate (m - xs.length) none
section
variable {K : PySem.W.Frag} [Gd K] {W W' : Wd} {S : Sl} {C C' : Cs} {σ : L2.St}
theorem Mem.cutcell {k j : Nat} {l : List D} {a : Addr} {fp : List Addr} (m : Mem K W C) (hk : k ≤ C.length) (hj : k ≤ j) (hc : C[j]? = some (.lst l)) (ha : W.As[j]? = some (a, fp)) : Mem K { W with As := W.As.take k ++ [(a, fp)] } (C.take k ++ [.lst l]) := by
  have hkA : k ≤ W.As.length := by rw [← m.len]; exact hk
  have lC : (C.take k).length = k := by rw [List.length_take]; omega
  have lA : (W.As.take k).length = k := by rw [List.length_take]; omega
  -- where a cell comes from
  have src : ∀ i, i ≤ k → ∃ i', (i' = if i < k then i else j) ∧ (C.take k ++ [DC.lst l])[i]? = C[i']? ∧ (W.As.take k ++ [(a, fp)])[i]? = W.As[i']? := fun i hi => by
    by_cases h : i < k
    · refine ⟨i, by rw [if_pos h], ?_, ?_⟩
      · rw [List.getElem?_append_left (by omega), List.getElem?_take_of_lt h]
      · rw [List.getElem?_append_left (by omega), List.getElem?_take_of_lt h]
    · have e : i = k := by omega
      subst e
      refine ⟨j, by rw [if_neg h], ?_, ?_⟩
      · rw [List.getElem?_append_right (by omega), lC, Nat.sub_self, hc]; rfl
      · rw [List.getElem?_append_right (by omega), lA, Nat.sub_self, ha]; rfl
  have bd : ∀ i u, (C.take k ++ [DC.lst l])[i]? = some u → i ≤ k := fun i u h => by
    have := (List.getElem?_eq_some_iff.mp h).1
    rw [List.length_append, lC, List.length_singleton] at this
    omega
  refine ⟨m.wrws, m.pvws, m.dis, m.dom, by show (C.take k ++ [_]).length = (W.As.take k ++ [_]).length; rw [List.length_append, List.length_append, lC, lA]; rfl, fun i u a' fp' h1 h2 h3 => ?_, fun i i2 u u2 a1 fp1 a2 fp2 hij h1 h2 h3 h4 h5 h6 => ?_⟩
  · obtain ⟨i', _, e1, e2⟩ := src i (bd i u h1)
    have h1' : C[i']? = some u := by rw [← e1]; exact h1
    have h2' : W.As[i']? = some (a', fp') := by rw [← e2]; exact h2
    obtain ⟨q1, q2⟩ := m.cell i' u a' fp' h1' h2' h3
    exact ⟨q1.pers (Pers.of rfl rfl) fun _ _ => rfl, q2⟩
  · obtain ⟨i', f1, e1, e2⟩ := src i (bd i u h1)
    obtain ⟨i2', f2, e3, e4⟩ := src i2 (bd i2 u2 h3)
    refine m.sep i' i2' u u2 a1 fp1 a2 fp2 ?_ (by rw [← e1]; exact h1) h2 (by rw [← e3]; exact h3) h4 (by rw [← e2]; exact h5) (by rw [← e4]; exact h6)
    have b1 := bd i u h1
    have b2 := bd i2 u2 h3
    rw [f1, f2]
    by_cases q1 : i < k
    · rw [if_pos q1]
      by_cases q2 : i2 < k
      · rw [if_pos q2]; exact hij
      · rw [if_neg q2]; omega
    · rw [if_neg q1]
      by_cases q2 : i2 < k
      · rw [if_pos q2]; omega
      · omega
theorem Ext.cutAs {W0 : Wd} {more : List (Addr × List Addr)} (e : Ext W0 W) (k : Nat) (hk : k = W0.As.length) : Ext W0 { W with As := W.As.take k ++ more } := by
  obtain ⟨m, h⟩ := e.as
  refine ⟨e.keep, e.there, e.wsn, e.wsk, e.wrn, e.pv, more, ?_⟩
  show W.As.take k ++ more = _
  rw [h, hk, List.take_left']
  rfl
theorem exit_ok {W0 : Wd} {C0 : Cs} {post : DV → Cs → Prop} {Q : VK} {v : V} {x : DV} (e : Ext W0 W) (h0 : C0.length = W0.As.length) (m : Mem K W C) (r : RepV K W v x) (q : exitD C0.length post x C)
    (hQ : ∀ y C', post y C' → ∀ W' v, Ext W0 W' → Mem K W' C' → RepV K W' v y → Q v W'.H) : Q v W.H := by
  have hle : C0.length ≤ C.length := by
    obtain ⟨mo, ha⟩ := e.as
    rw [m.len, ha, List.length_append]; omega
  have e1 : Ext W0 { W with As := W.As.take C0.length } := by
    have := e.cutAs (more := []) C0.length h0
    simpa using this
  unfold exitD at q
  split at q
  · exact hQ _ _ q { W with As := W.As.take C0.length } v e1 m.cut (Rep.mono (W := W) (W' := { W with As := W.As.take C0.length }) (Pers.of rfl rfl) r)
  · rename_i j
    by_cases hj : j < C0.length
    · rw [if_pos hj] at q
      obtain ⟨a, fp, r1, rfl⟩ := r
      exact hQ _ _ q { W with As := W.As.take C0.length } _ e1 m.cut ⟨a, fp, by show (W.As.take _)[j]? = _; rw [List.getElem?_take_of_lt hj]; exact r1, rfl⟩
    · rw [if_neg hj] at q
      split at q
      · rename_i l hl
        obtain ⟨a, fp, r1, rfl⟩ := r
        have hA : (W.As.take C0.length).length = C0.length := by rw [List.length_take, ← m.len]; omega
        refine hQ _ _ q { W with As := W.As.take C0.length ++ [(a, fp)] } _ (e.cutAs C0.length h0) (m.cutcell hle (by omega) hl r1) ⟨a, fp, ?_, rfl⟩
        show (W.As.take _ ++ [_])[C0.length]? = _
        rw [List.getElem?_append_right (by omega), hA, Nat.sub_self]; rfl
      · exact q.elim
  · exact q.elim
theorem slo_start {N : List Str} : ∀ {vs : List V} {xs : List DV}, RepVs K W vs xs → Slo K W (startD N.length xs) (L2.start N vs) := fun {vs xs} r => by
  refine ⟨by unfold startD L2.start; rw [List.length_append, List.length_append, List.length_map, List.length_map, List.length_replicate, List.length_replicate, r.len], fun i x q => ?_⟩
  unfold startD at q
  by_cases h : i < xs.length
  · rw [List.getElem?_append_left (by rw [List.length_map]; exact h), List.getElem?_map] at q
    have key : ∀ {vs : List V} {xs : List DV} {i : Nat}, RepVs K W vs xs → (xs[i]?).map some = some (some x) → ∃ v, (vs[i]?).map some = some (some v) ∧ RepV K W v x := by
      intro vs xs i r
      induction r generalizing i with
      | nil => intro h; simp at h
      | cons v y vs ys h t ih =>
        intro q
        cases i with
        | zero => simp at q; subst q; exact ⟨v, rfl, h⟩
        | succ i => exact ih (i := i) q
    obtain ⟨v, h1, h2⟩ := key r q
    refine ⟨v, ?_, h2⟩
    unfold L2.start
    rw [List.getElem?_append_left (by rw [List.length_map, r.len]; exact h), List.getElem?_map]; exact h1
  · rw [List.getElem?_append_right (by rw [List.length_map]; omega)] at q
    have := List.mem_of_getElem? q
    have := (List.mem_replicate.mp this).2
    cases this
end
/-- a def by its body over trees -/
theorem fn_d {P : Program} {w : World} {K : PySem.W.Frag} {mg : Str → Option Value} {base : Heap} {x qual : Str} {params : Arguments} {body : List Stmt} {scope : Scope} {dvs : List V} {kws : List (Str × V)} {f : Addr} {fd : FuncData} {CX : CXT} {N ps : List Str} {k : Nat} {d : DSp}
    (F : FunD K x qual params body scope dvs kws f fd) (S : FnScope N ps scope)
    (hbody : ∀ (cdv : Value) (A : Around) (outer : List Env) (s : Shared) (H : Hp) (E : XK), Room k (A.deeper (envOfC qual scope s.heap.objs.size f cdv)) →
      ∃ t dt, @QSs K (gd0 K) (cxOf CX P w K mg base N qual scope f cdv A outer s H E) body t dt ∧ ∀ xs C post, xs.length = ps.length → d xs C post → dt { nx := fun _ C' => exitD C.length post (.of .non) C', rt := exitD C.length post } (startD N.length xs) C) :
    FnOk P w K mg base CX (k + 1) f fd ps (rawSp K ps.length d) := by
  letI : Gd K := gd0 K
  refine F.ok S (fun vs H Q E h => h.1) fun cdv A outer s H vs Q E hr h => ?_
  obtain ⟨t, dt, q, hd⟩ := hbody cdv A outer s H E hr
  obtain ⟨hl, W, C, xs, rfl, hp, m, tg, r, post, hq, hpost⟩ := h
  have hxl : xs.length = ps.length := by rw [← r.len]; exact hl
  refine ⟨t, q.p, ?_⟩
  refine q.r W (startD N.length xs) C (L2.start N vs) ⟨m, slo_start r, trivial⟩ _ _ (hd xs C _ hxl hq) ⟨fun W' S' C' σ' e s' q' => ?_, fun W' C' v x e m' r' q' => ?_, fun W' S' C' σ' e s' q' => q'.elim, fun W' S' C' σ' e s' q' => q'.elim⟩
  · exact exit_ok e m.len s'.m (v := .non) (x := .of .non) Rep.non q' hpost
  · exact exit_ok e m.len m' r' q' hpost
theorem QSs.nox {K : PySem.W.Frag} [Gd K] {X : Cx} {st : List Stmt} {t : TS} {d : DTS} (h : QSs K X.nox st t d) : QSs K X st t d := ⟨PSs.nox h.p, h.r⟩
/-! ### how arguments are handed over -/
inductive Md where
  | v | b | io
/-- one argument: what the callee sees, the cells handed in, the cells lent -/
def prep1 (md : Md) (x : DV) (C : Cs) (is bs : List Nat) (k : DV → List Nat → List Nat → Cs → Prop) : Prop := match md with
  | .v => frz x C fun d C1 => k (.of d) is bs C1
  | .io => (match x with | .cel i => (match C[i]?, is.contains i with | some (.lst _), false => k (.cel is.length) (is ++ [i]) bs C | some (.pl _), false => k (.cel is.length) (is ++ [i]) bs C | some (.abs _ _), false => k (.cel is.length) (is ++ [i]) bs C | some (.dob _ _ _), false => k (.cel is.length) (is ++ [i]) bs C | some (.dct _), false => k (.cel is.length) (is ++ [i]) bs C | _, _ => False) | _ => False)
  | .b => (match x with
    | .of (.lst l) => k (.bor l) is bs C
    | .of d => k (.of d) is bs C
    | .bor l => k (.bor l) is bs C
    | .scr l => k (.scr l) is bs C
    | .sub _ => False
    | .cel i => (match rdL (.cel i) C with | some l => k (.bor l) is (i :: bs) C | none => False))
def prep : List Md → List DV → Cs → List Nat → List Nat → (List DV → List Nat → List Nat → Cs → Prop) → Prop
  | [], [], C, is, bs, k => k [] is bs C
  | m :: ms, x :: xs, C, is, bs, k => prep1 m x C is bs fun y is1 bs1 C1 => prep ms xs C1 is1 bs1 fun ys is2 bs2 C2 => k (y :: ys) is2 bs2 C2
  | _, _, _, _, _, _ => False
def passD (C : Cs) : List Nat → Cs := List.map fun i => match C[i]? with | some (.lst l) => .pl l | some c => c | none => .dead
def back1 (C : Cs) (i : Nat) (c : DC) : Option Cs := match C[i]?, c with
  | some (.lst _), .pl l => some (C.set i (.lst l))
  | some (.pl _), .pl l => some (C.set i (.pl l))
  | some (.abs _ _), .abs P st => some (C.set i (.abs P st))
  | some (.dob _ _ _), .dob c f kvs => some (C.set i (.dob c f kvs))
  | some (.dct _), .dct kvs => some (C.set i (.dct kvs))
  | _, _ => none
def backs (C : Cs) : List Nat → Cs → Option Cs
  | [], _ => some C
  | i :: is, c :: cs => (match back1 C i c with | some C1 => backs C1 is cs | none => none)
  | _ :: _, [] => none
def retC (is : List Nat) (C C' : Cs) (r : DV) (Q : DV → Cs → Prop) : Prop := match backs C is C' with
  | some C3 => (match r with
    | .of d => Q (.of d) C3
    | .cel j => (match is[j]? with
      | some i => Q (.cel i) C3
      | none => (match C'[j]? with | some (.lst l) => j = is.length ∧ Q (.cel C3.length) (C3 ++ [.lst l]) | some (.abs P st) => j = is.length ∧ Q (.cel C3.length) (C3 ++ [.abs P st]) | some (.dob c f kvs) => j = is.length ∧ Q (.cel C3.length) (C3 ++ [.dob c f kvs]) | some (.dct kvs) => j = is.length ∧ Q (.cel C3.length) (C3 ++ [.dct kvs]) | _ => False))
    | _ => False)
  | none => False
def callD (mds : List Md) (d : DSp) (xs : List DV) (C : Cs) (Q : DV → Cs → Prop) : Prop := prep mds xs C [] [] fun ys is bs C1 => match bs.all fun b => !is.contains b with
  | true => d ys (passD C1 is) fun r C' => retC is C1 C' r Q
  | false => False
section
variable {K : PySem.W.Frag} [Gd K] {S : Sl} {σ : L2.St}
/-- what the callee's argument is, in the caller's world -/
def RepY (K : PySem.W.Frag) (W : Wd) (C : Cs) (is bs : List Nat) (v : V) : DV → Prop
  | .of d => Rep K W v d
  | .cel j => ∃ i a fp, is[j]? = some i ∧ W.As[i]? = some (a, fp) ∧ v = .ref a
  | .scr l => RepV K W v (.scr l)
  | .sub _ => False
  | .bor l => ∃ a us, v = .ref a ∧ W.H a = some (.lst us) ∧ Reps K W us l ∧ (a ∉ W.wr ∨ ∃ i dc, i ∈ bs ∧ C[i]? = some dc ∧ live dc ∧ W.As[i]? = some (a, [a]))
inductive RepYs (K : PySem.W.Frag) (W : Wd) (C : Cs) (is bs : List Nat) : List V → List DV → Prop
  | nil : RepYs K W C is bs [] []
  | cons (v : V) (y : DV) (vs : List V) (ys : List DV) (h : RepY K W C is bs v y) (t : RepYs K W C is bs vs ys) : RepYs K W C is bs (v :: vs) (y :: ys)
theorem RepY.more {W : Wd} {C : Cs} {is bs is' bs' : List Nat} {v : V} {y : DV} (h : RepY K W C is bs v y) (h1 : ∀ (j i : Nat), is[j]? = some i → is'[j]? = some i) (h2 : ∀ b ∈ bs, b ∈ bs') : RepY K W C is' bs' v y := by
  cases y with
  | of d => exact h
  | scr l => exact h
  | sub i => exact h
  | cel j => obtain ⟨i, a, fp, e1, e2, e3⟩ := h; exact ⟨i, a, fp, h1 j i e1, e2, e3⟩
  | bor l =>
    obtain ⟨a, us, e1, e2, e3, e4⟩ := h
    refine ⟨a, us, e1, e2, e3, ?_⟩
    rcases e4 with e4 | ⟨i, dc, q1, q2⟩
    · exact .inl e4
    · exact .inr ⟨i, dc, h2 i q1, q2⟩
theorem RepYs.more {W : Wd} {C : Cs} {is bs is' bs' : List Nat} (h1 : ∀ (j i : Nat), is[j]? = some i → is'[j]? = some i) (h2 : ∀ b ∈ bs, b ∈ bs') : ∀ {vs : List V} {ys : List DV}, RepYs K W C is bs vs ys → RepYs K W C is' bs' vs ys
  | _, _, .nil => .nil
  | _, _, .cons _ _ _ _ h t => .cons _ _ _ _ (h.more h1 h2) (RepYs.more h1 h2 t)
theorem RepYs.snoc {W : Wd} {C : Cs} {is bs : List Nat} {v : V} {y : DV} (h : RepY K W C is bs v y) : ∀ {vs : List V} {ys : List DV}, RepYs K W C is bs vs ys → RepYs K W C is bs (vs ++ [v]) (ys ++ [y])
  | _, _, .nil => .cons _ _ _ _ h .nil
  | _, _, .cons _ _ _ _ h' t => .cons _ _ _ _ h' (RepYs.snoc h t)
theorem RepYs.app {W : Wd} {C : Cs} {is bs : List Nat} : ∀ {vs us : List V} {ys zs : List DV}, RepYs K W C is bs vs ys → RepYs K W C is bs us zs → RepYs K W C is bs (vs ++ us) (ys ++ zs)
  | _, _, _, _, .nil, q => q
  | _, _, _, _, .cons _ _ _ _ h t, q => .cons _ _ _ _ h (RepYs.app t q)
/-- a list given away does no harm to what is lent -/
theorem RepY.frz {W W' : Wd} {C : Cs} {is bs : List Nat} {i : Nat} {l : List D} {a0 : Addr} {v : V} {y : DV} (m : Mem K W C) (hc : C[i]? = some (.lst l)) (ha : W.As[i]? = some (a0, [a0])) (e : Ext W W') (hH : W'.H = W.H) (hA : W'.As = W.As) (hn : a0 ∉ W'.wr)
    (h : RepY K W C is bs v y) : RepY K W' (C.set i .dead) is bs v y := by
  cases y with
  | of d => exact Rep.mono (e.pers m.wrws) h
  | scr l => exact RepV.mono (x := .scr l) m e h
  | sub i => exact h.elim
  | cel j => obtain ⟨k, a, fp, e1, e2, e3⟩ := h; exact ⟨k, a, fp, e1, by rw [hA]; exact e2, e3⟩
  | bor l' =>
    obtain ⟨a, us, e1, e2, e3, e4⟩ := h
    refine ⟨a, us, e1, by rw [hH]; exact e2, Reps.mono (e.pers m.wrws) e3, ?_⟩
    rcases e4 with e4 | ⟨k, dc, q1, q2, q3, q4⟩
    · refine .inl fun z => ?_
      rcases e.wrn a z with r | r
      · exact e4 r
      · rw [e2] at r; cases r
    · by_cases hk : i = k
      · subst hk
        rw [ha] at q4
        cases q4
        exact .inl hn
      · exact .inr ⟨k, dc, q1, by rw [List.getElem?_set_ne hk]; exact q2, q3, by rw [hA]; exact q4⟩
theorem RepYs.frz {W W' : Wd} {C : Cs} {is bs : List Nat} {i : Nat} {l : List D} {a0 : Addr} (m : Mem K W C) (hc : C[i]? = some (.lst l)) (ha : W.As[i]? = some (a0, [a0])) (e : Ext W W') (hH : W'.H = W.H) (hA : W'.As = W.As) (hn : a0 ∉ W'.wr) :
    ∀ {vs : List V} {ys : List DV}, RepYs K W C is bs vs ys → RepYs K W' (C.set i .dead) is bs vs ys
  | _, _, .nil => .nil
  | _, _, .cons _ _ _ _ h t => .cons _ _ _ _ (h.frz m hc ha e hH hA hn) (RepYs.frz m hc ha e hH hA hn t)
/-- one argument is made: those made so far stay -/
theorem prep1_ok {W : Wd} {C : Cs} {is bs : List Nat} {md : Md} {v : V} {x : DV} {vs : List V} {ys : List DV} {k : DV → List Nat → List Nat → Cs → Prop} (s : Sta K W S C σ) (nd : is.Nodup) (r : RepV K W v x) (ry : RepYs K W C is bs vs ys) (h : prep1 md x C is bs k) :
    ∃ y is' bs' C' W', Ext W W' ∧ W'.H = W.H ∧ Sta K W' S C' σ ∧ is'.Nodup ∧ RepYs K W' C' is' bs' (vs ++ [v]) (ys ++ [y]) ∧ k y is' bs' C' := by
  cases md with
  | v =>
    have h' : frz x C fun d C1 => k (.of d) is bs C1 := h
    unfold frz at h'
    split at h'
    · exact ⟨_, is, bs, C, W, .refl, rfl, s, nd, ry.snoc (y := .of _) r, h'⟩
    · split at h'
      · rename_i i l hl
        obtain ⟨a, W', h1, h2, h3, h4, h5⟩ := s.m.freeze hl
        have hA : W'.As = W.As := by
          obtain ⟨mo, e⟩ := h3.as
          have hl1 := h4.len
          rw [List.length_set, s.m.len] at hl1
          have : mo = [] := by
            rw [e, List.length_append] at hl1
            exact List.eq_nil_of_length_eq_zero (by omega)
          rw [e, this, List.append_nil]
        have hn : a ∉ W'.wr := fun z => by
          cases h5 with
          | lst _ us _ g n rr => exact n (h4.wrws a z)
        obtain ⟨b, fp, r1, rfl⟩ := r
        rw [h1] at r1
        cases r1
        exact ⟨_, is, bs, _, W', h3, h2, ⟨h4, s.s.mono s.m h3, Gd.ext s.g h3⟩, nd, (ry.frz s.m hl h1 h3 h2 hA hn).snoc (y := .of _) h5, h'⟩
      · exact h'.elim
    · exact h'.elim
  | io =>
    unfold prep1 at h
    dsimp only at h
    have h' := h
    clear h
    split at h'
    · rename_i i
      have go : is.contains i = false → k (.cel is.length) (is ++ [i]) bs C → ∃ y is' bs' C' W', Ext W W' ∧ W'.H = W.H ∧ Sta K W' S C' σ ∧ is'.Nodup ∧ RepYs K W' C' is' bs' (vs ++ [v]) (ys ++ [y]) ∧ k y is' bs' C' := fun hc hk => by
        obtain ⟨a, fp, r1, rfl⟩ := r
        have hni : i ∉ is := fun z => by
          have : is.contains i = true := List.contains_iff_mem.mpr z
          rw [hc] at this; cases this
        refine ⟨_, is ++ [i], bs, C, W, .refl, rfl, s, ?_, (ry.more (fun j u q => ?_) fun _ h => h).snoc (y := .cel is.length) ⟨i, a, fp, ?_, r1, rfl⟩, hk⟩
        · rw [List.nodup_append]
          refine ⟨nd, by simp, fun a ha b hb => ?_⟩
          rw [List.mem_singleton] at hb
          intro e
          exact hni (by rw [← hb, ← e]; exact ha)
        · rw [List.getElem?_append_left (List.getElem?_eq_some_iff.mp q).1]; exact q
        · rw [List.getElem?_append_right (Nat.le_refl _), Nat.sub_self]; rfl
      split at h'
      · exact go (by assumption) h'
      · exact go (by assumption) h'
      · exact go (by assumption) h'
      · exact go (by assumption) h'
      · exact go (by assumption) h'
      · exact h'.elim
    · exact h'.elim
  | b =>
    unfold prep1 at h
    dsimp only at h
    have h' := h
    clear h
    split at h'
    · rename_i l
      cases r with
      | lst a us ds g n rr => exact ⟨_, is, bs, C, W, .refl, rfl, s, nd, ry.snoc (y := .bor l) ⟨a, us, rfl, g, rr, .inl fun z => n (s.m.wrws a z)⟩, h'⟩
    · exact ⟨_, is, bs, C, W, .refl, rfl, s, nd, ry.snoc (y := .of _) r, h'⟩
    · rename_i l
      obtain ⟨a, us, e1, e2, e3, e4, e5⟩ := r
      exact ⟨_, is, bs, C, W, .refl, rfl, s, nd, ry.snoc (y := .bor l) ⟨a, us, e1, e2, e5, .inl e3⟩, h'⟩
    · rename_i l
      exact ⟨_, is, bs, C, W, .refl, rfl, s, nd, ry.snoc (y := .scr l) r, h'⟩
    · exact h'.elim
    · rename_i i
      split at h'
      · rename_i l hl
        obtain ⟨a, us, rfl, g1, g2⟩ := rdL_ok s.m r hl
        obtain ⟨a', fp, r1, e⟩ := r
        cases e
        obtain ⟨dc, hc, lv⟩ : ∃ dc, C[i]? = some dc ∧ (∃ l, dc = .lst l ∨ dc = .pl l) := by
          have hl' : (match C[i]? with | some (.lst l) => some l | some (.pl l) => some l | _ => none) = some l := hl
          split at hl'
          · exact ⟨_, by assumption, _, .inl rfl⟩
          · exact ⟨_, by assumption, _, .inr rfl⟩
          · cases hl'
        have lv' : live dc := by obtain ⟨_, q | q⟩ := lv <;> (subst q; trivial)
        have hf : fp = [a] := by
          obtain ⟨q1, _⟩ := s.m.cell i dc a fp hc r1 lv'
          obtain ⟨_, q | q⟩ := lv <;> (subst q; exact q1.1)
        subst hf
        exact ⟨_, is, i :: bs, C, W, .refl, rfl, s, nd, (ry.more (fun _ _ q => q) fun b hb => List.mem_cons_of_mem _ hb).snoc (y := .bor l) ⟨a, us, rfl, g1, g2, .inr ⟨i, dc, List.mem_cons_self, hc, lv', r1⟩⟩, h'⟩
      · exact h'.elim
theorem prep_ok : ∀ {mds : List Md} {W : Wd} {C : Cs} {is bs : List Nat} {us : List V} {xs : List DV} {vs : List V} {ys : List DV} {k : List DV → List Nat → List Nat → Cs → Prop}, Sta K W S C σ → is.Nodup → RepVs K W us xs → RepYs K W C is bs vs ys → prep mds xs C is bs k →
    ∃ zs is' bs' C' W', Ext W W' ∧ W'.H = W.H ∧ Sta K W' S C' σ ∧ is'.Nodup ∧ RepYs K W' C' is' bs' (vs ++ us) (ys ++ zs) ∧ k zs is' bs' C'
  | [], W, C, is, bs, _, _, vs, ys, k, s, nd, .nil, ry, h => ⟨[], is, bs, C, W, .refl, rfl, s, nd, by rw [List.append_nil, List.append_nil]; exact ry, h⟩
  | [], W, C, is, bs, _, _, vs, ys, k, s, nd, .cons _ _ _ _ _ _, ry, h => False.elim h
  | _ :: _, W, C, is, bs, _, _, vs, ys, k, s, nd, .nil, ry, h => False.elim h
  | md :: mds, W, C, is, bs, _, _, vs, ys, k, s, nd, .cons v x us xs r t, ry, h => by
    obtain ⟨y, is1, bs1, C1, W1, e1, hH1, s1, nd1, ry1, h1⟩ := prep1_ok s nd r ry h
    obtain ⟨zs, is2, bs2, C2, W2, e2, hH2, s2, nd2, ry2, h2⟩ := prep_ok s1 nd1 (t.mono s.m e1) ry1 h1
    refine ⟨y :: zs, is2, bs2, C2, W2, e1.trans e2, hH2.trans hH1, s2, nd2, ?_, h2⟩
    rw [List.append_assoc, List.append_assoc] at ry2
    exact ry2
/-! the callee's world -/
def fpOf (W : Wd) (C : Cs) (i : Nat) : List Addr := match C[i]?, W.As[i]? with
  | some .dead, _ => []
  | some _, some (_, fp) => fp
  | _, _ => []
def inW (W : Wd) (C : Cs) (is : List Nat) : Wd := { H := W.H, ws := W.ws, wr := is.flatMap (fpOf W C), pv := [], As := is.map fun i => W.As.getD i (0, []) }
theorem mem_fpOf {W : Wd} {C : Cs} {i : Nat} {b : Addr} (h : b ∈ fpOf W C i) : ∃ dc a fp, C[i]? = some dc ∧ live dc ∧ W.As[i]? = some (a, fp) ∧ b ∈ fp := by
  unfold fpOf at h
  split at h
  · simp at h
  · rename_i dc a fp nd hc ha
    refine ⟨dc, a, fp, hc, ?_, ha, h⟩
    cases dc <;> first | trivial | exact (nd rfl).elim
  · simp at h
theorem fpOf_mem {W : Wd} {C : Cs} {i : Nat} {dc : DC} {a : Addr} {fp : List Addr} (hc : C[i]? = some dc) (lv : live dc) (ha : W.As[i]? = some (a, fp)) : fpOf W C i = fp := by
  unfold fpOf
  rw [hc, ha]
  cases dc <;> first | rfl | exact lv.elim
theorem passD_at {C : Cs} {is : List Nat} {j : Nat} {dc : DC} (h : (passD C is)[j]? = some dc) (lv : live dc) : ∃ i dc0, is[j]? = some i ∧ C[i]? = some dc0 ∧ live dc0 ∧ ((∃ l, dc0 = .lst l ∧ dc = .pl l) ∨ dc = dc0) := by
  unfold passD at h
  rw [List.getElem?_map] at h
  cases hi : is[j]? with
  | none => rw [hi] at h; cases h
  | some i =>
    rw [hi] at h
    have h' : (match C[i]? with | some (.lst l) => DC.pl l | some c => c | none => .dead) = dc := Option.some.inj h
    split at h'
    · subst h'; rename_i l hl; exact ⟨i, .lst l, rfl, hl, trivial, .inl ⟨l, rfl, rfl⟩⟩
    · subst h'; exact ⟨i, _, rfl, by assumption, lv, .inr rfl⟩
    · subst h'; exact lv.elim
theorem inW_at {W : Wd} {C : Cs} {is : List Nat} {j i : Nat} {p : Addr × List Addr} (hi : is[j]? = some i) (ha : W.As[i]? = some p) : (inW W C is).As[j]? = some p := by
  show (is.map _)[j]? = _
  rw [List.getElem?_map, hi]
  show some (W.As.getD i (0, [])) = _
  rw [List.getD_eq_getElem?_getD, ha]; rfl
theorem as_of {W : Wd} {C : Cs} {i : Nat} {dc : DC} (m : Mem K W C) (h : C[i]? = some dc) : ∃ p, W.As[i]? = some p := ⟨_, List.getElem?_eq_getElem (by rw [← m.len]; exact (List.getElem?_eq_some_iff.mp h).1)⟩
theorem inW_sub {W : Wd} {C : Cs} {is : List Nat} (m : Mem K W C) : ∀ b ∈ (inW W C is).wr, b ∈ W.wr := fun b hb => by
  obtain ⟨i, _, h⟩ := List.mem_flatMap.mp hb
  obtain ⟨dc, a, fp, hc, lv, ha, hf⟩ := mem_fpOf h
  exact (m.cell i dc a fp hc ha lv).2 b hf
theorem inW_mem {W : Wd} {C : Cs} {is : List Nat} (m : Mem K W C) (nd : is.Nodup) : Mem K (inW W C is) (passD C is) ∧ Tight (inW W C is) (passD C is) := by
  refine ⟨⟨fun b hb => m.wrws b (inW_sub m b hb), fun b hb => by simp [inW] at hb, fun b _ hb => by simp [inW] at hb, m.dom, by show (is.map _).length = (is.map _).length; rw [List.length_map, List.length_map], fun j dc a fp h1 h2 lv => ?_, fun j j2 dc dc2 a fp a2 fp2 hj h1 l1 h2 l2 h3 h4 => ?_⟩, fun b hb => ?_⟩
  · obtain ⟨i, dc0, hi, hc, l0, hd⟩ := passD_at h1 lv
    obtain ⟨p, hp⟩ := as_of m hc
    rw [inW_at hi hp] at h2
    cases h2
    obtain ⟨q1, q2⟩ := m.cell i dc0 a fp hc hp l0
    have q1' : CellAt K (inW W C is) a fp dc0 := q1.pers (Pers.of rfl rfl) fun _ _ => rfl
    refine ⟨?_, fun b hb => List.mem_flatMap.mpr ⟨i, List.mem_of_getElem? hi, by rw [fpOf_mem hc l0 hp]; exact hb⟩⟩
    rcases hd with ⟨l, rfl, rfl⟩ | rfl
    · exact q1'
    · exact q1'
  · obtain ⟨i, dc0, hi, hc, l0, _⟩ := passD_at h1 l1
    obtain ⟨i2, dc02, hi2, hc2, l02, _⟩ := passD_at h2 l2
    obtain ⟨p, hp⟩ := as_of m hc
    obtain ⟨p2, hp2⟩ := as_of m hc2
    rw [inW_at hi hp] at h3
    rw [inW_at hi2 hp2] at h4
    cases h3; cases h4
    refine m.sep i i2 dc0 dc02 a fp a2 fp2 (fun e => hj ?_) hc l0 hc2 l02 hp hp2
    subst e
    have b1 := (List.getElem?_eq_some_iff.mp hi)
    have b2 := (List.getElem?_eq_some_iff.mp hi2)
    obtain ⟨g1, g2⟩ := b1
    obtain ⟨g3, g4⟩ := b2
    exact (List.getElem_inj nd).mp (g2.trans g4.symm)
  · obtain ⟨i, hi, h⟩ := List.mem_flatMap.mp hb
    obtain ⟨dc, a, fp, hc, lv, ha, hf⟩ := mem_fpOf h
    obtain ⟨j, hj, e⟩ := List.getElem_of_mem hi
    have hij : is[j]? = some i := by rw [List.getElem?_eq_getElem hj, e]
    have key : ∃ dc', (passD C is)[j]? = some dc' ∧ live dc' := by
      unfold passD
      rw [List.getElem?_map, hij]
      refine ⟨_, rfl, ?_⟩
      show live (match C[i]? with | some (.lst l) => DC.pl l | some c => c | none => .dead)
      rw [hc]
      cases dc <;> first | trivial | exact lv.elim
    obtain ⟨dc', h1, h2⟩ := key
    exact ⟨j, dc', a, fp, h1, h2, inW_at hij ha, hf⟩
theorem RepY.inW {W : Wd} {C : Cs} {is bs : List Nat} {v : V} {y : DV} (m : Mem K W C) (hb : ∀ b ∈ bs, b ∉ is) (h : RepY K W C is bs v y) : RepV K (inW W C is) v y := by
  cases y with
  | of d => exact Rep.mono (W := W) (W' := Z.inW W C is) (Pers.of rfl rfl) h
  | sub i => exact h.elim
  | scr l =>
    obtain ⟨a, us, rfl, h1, h4⟩ := h
    refine ⟨a, us, rfl, ?_, Reps.mono (W := W) (W' := Z.inW W C is) (Pers.of rfl rfl) h4⟩
    rcases h1 with ⟨h1, h2, h3⟩ | h1
    · exact .inl ⟨h1, fun z => h2 (inW_sub m a z), by simp [Z.inW]⟩
    · exact .inr h1
  | cel j => obtain ⟨i, a, fp, e1, e2, e3⟩ := h; exact ⟨a, fp, inW_at e1 e2, e3⟩
  | bor l =>
    obtain ⟨a, us, rfl, e2, e3, e4⟩ := h
    refine ⟨a, us, rfl, e2, fun z => ?_, by simp [Z.inW], Reps.mono (W := W) (W' := Z.inW W C is) (Pers.of rfl rfl) e3⟩
    rcases e4 with e4 | ⟨i, dc, q1, q2, q3, q4⟩
    · exact e4 (inW_sub m a z)
    · obtain ⟨i2, hi2, h⟩ := List.mem_flatMap.mp z
      obtain ⟨dc2, a2, fp2, hc2, lv2, ha2, hf2⟩ := mem_fpOf h
      exact m.sep i i2 dc dc2 a [a] a2 fp2 (fun e => hb i q1 (e ▸ hi2)) q2 q3 hc2 lv2 q4 ha2 a (by simp) hf2
theorem RepYs.inW {W : Wd} {C : Cs} {is bs : List Nat} (m : Mem K W C) (hb : ∀ b ∈ bs, b ∉ is) : ∀ {vs : List V} {ys : List DV}, RepYs K W C is bs vs ys → RepVs K (inW W C is) vs ys
  | _, _, .nil => .nil
  | _, _, .cons _ _ _ _ h t => .cons _ _ _ _ (h.inW m hb) (RepYs.inW m hb t)
/-! back in the caller's world -/
theorem backs_ok : ∀ {is : List Nat} {C C3 : Cs} {cs : Cs}, is.Nodup → backs C is cs = some C3 → C3.length = C.length ∧ (∀ i, i ∉ is → C3[i]? = C[i]?) ∧
    ∀ (j i : Nat), is[j]? = some i → ∃ c0 c c3, C[i]? = some c0 ∧ live c0 ∧ cs[j]? = some c ∧ live c ∧ C3[i]? = some c3 ∧ ((∃ l, c = .pl l ∧ (c3 = .lst l ∨ c3 = .pl l)) ∨ c3 = c)
  | [], C, C3, cs, _, h => by
    rw [backs] at h
    cases h
    exact ⟨rfl, fun _ _ => rfl, fun j i q => by simp at q⟩
  | i :: is, C, C3, [], _, h => by cases h
  | i :: is, C, C3, c :: cs, nd, h => by
    have h' : (match back1 C i c with | some C1 => backs C1 is cs | none => none) = some C3 := h
    split at h'
    · rename_i C1 hC1
      obtain ⟨n1, n2⟩ := List.nodup_cons.mp nd
      obtain ⟨b1, b2, b3⟩ := backs_ok n2 h'
      have key : ∃ c0 c3, C[i]? = some c0 ∧ live c0 ∧ live c ∧ C1 = C.set i c3 ∧ ((∃ l, c = .pl l ∧ (c3 = .lst l ∨ c3 = .pl l)) ∨ c3 = c) := by
        unfold back1 at hC1
        split at hC1
        · rename_i l0 l hl; cases hC1; exact ⟨.lst l0, _, hl, trivial, trivial, rfl, .inl ⟨_, rfl, .inl rfl⟩⟩
        · rename_i l0 l hl; cases hC1; exact ⟨.pl l0, _, hl, trivial, trivial, rfl, .inl ⟨_, rfl, .inr rfl⟩⟩
        · rename_i P0 s0 P st hl; cases hC1; exact ⟨.abs P0 s0, _, hl, trivial, trivial, rfl, .inr rfl⟩
        · rename_i c0 f0 k0 c1 f1 k1 hl; cases hC1; exact ⟨.dob c0 f0 k0, _, hl, trivial, trivial, rfl, .inr rfl⟩
        · rename_i k0 k1 hl; cases hC1; exact ⟨.dct k0, _, hl, trivial, trivial, rfl, .inr rfl⟩
        · cases hC1
      obtain ⟨c0, c3, k1, k2, k3, rfl, k4⟩ := key
      have hi : i < C.length := (List.getElem?_eq_some_iff.mp k1).1
      refine ⟨by rw [b1, List.length_set], fun u hu => ?_, fun j u q => ?_⟩
      · have hu1 : u ≠ i := fun e => hu (by rw [e]; exact List.mem_cons_self)
        rw [b2 u fun z => hu (List.mem_cons_of_mem _ z), List.getElem?_set_ne (Ne.symm hu1)]
      · cases j with
        | zero =>
          cases (show i = u from Option.some.inj q)
          exact ⟨c0, c, c3, k1, k2, rfl, k3, by rw [b2 i n1, List.getElem?_set_self hi], k4⟩
        | succ j =>
          have q' : is[j]? = some u := q
          have hu : i ≠ u := fun e => n1 (by rw [e]; exact List.mem_of_getElem? q')
          obtain ⟨d0, d, d3, g1, g2, g3, g4, g5, g6⟩ := b3 j u q'
          rw [List.getElem?_set_ne hu] at g1
          exact ⟨d0, d, d3, g1, g2, g3, g4, g5, g6⟩
    · cases h'
theorem ret_ok {W W' : Wd} {C C' : Cs} {is : List Nat} {v : V} {r : DV} {QD : DV → Cs → Prop} {Q : VK} (s : Sta K W S C σ) (nd : is.Nodup) (e : Ext (inW W C is) W') (m' : Mem K W' C') (rv : RepV K W' v r) (h : retC is C C' r QD)
    (k : ∀ v x W2 C2, Ext W W2 → Sta K W2 S C2 σ → RepV K W2 v x → QD x C2 → Q v W2.H) : Q v W'.H := by
  unfold retC at h
  split at h
  · rename_i C3 hC3
    obtain ⟨b1, b2, b3⟩ := backs_ok nd hC3
    have hAs : ∀ (j : Nat) i p, is[j]? = some i → W.As[i]? = some p → W'.As[j]? = some p := fun j i p h1 h2 => by
      obtain ⟨mo, ha⟩ := e.as
      have := inW_at (C := C) h1 h2
      rw [ha, List.getElem?_append_left (List.getElem?_eq_some_iff.mp this).1]; exact this
    -- the written cells, there and back
    have wk : ∀ b ∈ W.ws, b ∈ W'.ws := fun b hb => by
      by_cases q : b ∈ (inW W C is).wr
      · obtain ⟨i, hi, hf⟩ := List.mem_flatMap.mp q
        obtain ⟨dc, a, fp, hc, lv, ha, hbf⟩ := mem_fpOf hf
        obtain ⟨j, hj, ej⟩ := List.getElem_of_mem hi
        have hij : is[j]? = some i := by rw [List.getElem?_eq_getElem hj, ej]
        obtain ⟨c0, c, c3, g1, g2, g3, g4, g5, g6⟩ := b3 j i hij
        exact m'.wrws b ((m'.cell j c a fp g3 (hAs j i _ hij ha) g4).2 b hbf)
      · exact e.wsk b hb (s.m.dom b hb) q
    have keepO : ∀ b o, W.H b = some o → b ∉ (inW W C is).wr → W'.H b = some o := fun b o h n => e.keep b o h n
    have base : ∀ (extra : List Addr) (more : List (Addr × List Addr)), (∀ b ∈ extra, W.H b = none ∧ W'.H b ≠ none) → Ext W { H := W'.H, ws := extra ++ W.ws, wr := extra ++ W.wr, pv := W.pv, As := W.As ++ more } := fun extra more hx =>
      ⟨fun b o h n => keepO b o h fun z => n (inW_sub s.m b z), e.there, fun b hb => by
        rcases List.mem_append.mp hb with z | z
        · exact .inr (hx b z).1
        · exact .inl z, fun b hb _ _ => List.mem_append_right _ hb, fun b hb => by
        rcases List.mem_append.mp hb with z | z
        · exact .inr (hx b z).1
        · exact .inl z, rfl, more, rfl⟩
    have persW' : ∀ (extra : List Addr) (more : List (Addr × List Addr)), (∀ b ∈ extra, b ∈ W'.ws) → Pers W' { H := W'.H, ws := extra ++ W.ws, wr := extra ++ W.wr, pv := W.pv, As := W.As ++ more } := fun extra more hx b o h n => ⟨h, fun z => by
      rcases List.mem_append.mp z with q | q
      · exact n (hx b q)
      · exact n (wk b q)⟩
    have cells : ∀ (extra : List Addr) (more : List (Addr × List Addr)), (∀ b ∈ extra, W.H b = none ∧ W'.H b ≠ none) → (∀ b ∈ extra, b ∈ W'.ws) → ∀ (i : Nat) (c3 : DC) (a : Addr) (fp : List Addr), C3[i]? = some c3 → W.As[i]? = some (a, fp) → live c3 →
        CellAt K { H := W'.H, ws := extra ++ W.ws, wr := extra ++ W.wr, pv := W.pv, As := W.As ++ more } a fp c3 ∧ (∀ b ∈ fp, b ∈ W.wr) ∧ ∃ c0, C[i]? = some c0 ∧ live c0 := by
      intro extra more hx hx2 i c3 a fp h1 h2 lv
      by_cases hi : i ∈ is
      · obtain ⟨j, hj, ej⟩ := List.getElem_of_mem hi
        have hij : is[j]? = some i := by rw [List.getElem?_eq_getElem hj, ej]
        obtain ⟨c0, c, c3', g1, g2, g3, g4, g5, g6⟩ := b3 j i hij
        rw [h1] at g5
        cases g5
        obtain ⟨q1, q2⟩ := m'.cell j c a fp g3 (hAs j i _ hij h2) g4
        refine ⟨?_, (s.m.cell i c0 a fp g1 h2 g2).2, c0, g1, g2⟩
        have q1' := q1.pers (persW' extra more hx2) fun _ _ => rfl
        rcases g6 with ⟨l, rfl, rfl | rfl⟩ | rfl
        · exact q1'
        · exact q1'
        · exact q1'
      · rw [b2 i hi] at h1
        obtain ⟨q1, q2⟩ := s.m.cell i c3 a fp h1 h2 lv
        refine ⟨q1.pers ((base extra more hx).pers s.m.wrws) fun b hb => ?_, q2, c3, h1, lv⟩
        have nb : b ∉ (inW W C is).wr := fun z => by
          obtain ⟨i2, hi2, hf⟩ := List.mem_flatMap.mp z
          obtain ⟨dc, a2, fp2, hc, lv2, ha2, hbf⟩ := mem_fpOf hf
          exact s.m.sep i i2 c3 dc a fp a2 fp2 (fun e => hi (e ▸ hi2)) h1 lv hc lv2 h2 ha2 b hb hbf
        cases hh : W.H b with
        | none => exact absurd hh (s.m.dom b (s.m.wrws b (q2 b hb)))
        | some o => exact keepO b o hh nb
    have memB : Mem K { H := W'.H, ws := W.ws, wr := W.wr, pv := W.pv, As := W.As } C3 := by
      refine ⟨s.m.wrws, s.m.pvws, s.m.dis, fun b hb => e.there b (s.m.dom b hb), by rw [b1]; exact s.m.len, fun i dc a fp h1 h2 h3 => ?_, fun i j dc dc' a fp a' fp' hij h1 h2 h3 h4 h5 h6 => ?_⟩
      · obtain ⟨q1, q2, _⟩ := cells [] [] (fun _ h => by simp at h) (fun _ h => by simp at h) i dc a fp h1 h2 h3
        exact ⟨by simpa using q1, q2⟩
      · obtain ⟨_, _, c0, g1, g2⟩ := cells [] [] (fun _ h => by simp at h) (fun _ h => by simp at h) i dc a fp h1 h5 h2
        obtain ⟨_, _, c0', g1', g2'⟩ := cells [] [] (fun _ h => by simp at h) (fun _ h => by simp at h) j dc' a' fp' h3 h6 h4
        exact s.m.sep i j c0 c0' a fp a' fp' hij g1 g2 g1' g2' h5 h6
    have extB : Ext W { H := W'.H, ws := W.ws, wr := W.wr, pv := W.pv, As := W.As } := by
      have := base [] [] (fun _ h => by simp at h)
      simpa using this
    have staB : Sta K { H := W'.H, ws := W.ws, wr := W.wr, pv := W.pv, As := W.As } S C3 σ := ⟨memB, s.s.mono s.m extB, Gd.ext s.g extB⟩
    split at h
    · refine k v (.of _) { H := W'.H, ws := W.ws, wr := W.wr, pv := W.pv, As := W.As } C3 extB staB ?_ h
      exact Rep.mono (W := W') (W' := { H := W'.H, ws := W.ws, wr := W.wr, pv := W.pv, As := W.As }) (fun b o h n => ⟨h, fun z => n (wk b z)⟩) rv
    · rename_i j
      obtain ⟨a, fp, r1, rfl⟩ := rv
      split at h
      · rename_i i hij
        refine k _ (.cel i) { H := W'.H, ws := W.ws, wr := W.wr, pv := W.pv, As := W.As } C3 extB staB ⟨a, fp, ?_, rfl⟩ h
        obtain ⟨c0, c, c3, g1, _⟩ := b3 j i hij
        obtain ⟨p, hp⟩ := as_of s.m g1
        rw [hAs j i p hij hp] at r1
        cases r1
        exact hp
      · rename_i hj
        have go : ∀ dc, C'[j]? = some dc → live dc → j = is.length → QD (.cel C3.length) (C3 ++ [dc]) → Q (.ref a) W'.H := by
          intro dc hl lvd ej h
          obtain ⟨q1, q3⟩ := m'.cell j dc a fp hl r1 lvd
          have na : ∀ b ∈ fp, b ∉ (inW W C is).wr := fun b hb z => by
            obtain ⟨i2, hi2, hf⟩ := List.mem_flatMap.mp z
            obtain ⟨dc2, a2, fp2, hc, lv2, ha2, hbf⟩ := mem_fpOf hf
            obtain ⟨j2, hj2, ej2⟩ := List.getElem_of_mem hi2
            have hij : is[j2]? = some i2 := by rw [List.getElem?_eq_getElem hj2, ej2]
            obtain ⟨c0, c, c3, g1, g2, g3, g4, g5, g6⟩ := b3 j2 i2 hij
            exact m'.sep j2 j c dc a2 fp2 a fp (by omega) g3 g4 hl lvd (hAs j2 i2 _ hij ha2) r1 b hbf hb
          have hn : ∀ b ∈ fp, W.H b = none := fun b hb => by
            rcases e.wrn b (q3 b hb) with z | z
            · exact absurd z (na b hb)
            · exact z
          have hx : ∀ b ∈ fp, W.H b = none ∧ W'.H b ≠ none := fun b hb => ⟨hn b hb, m'.dom b (m'.wrws b (q3 b hb))⟩
          have hx2 : ∀ b ∈ fp, b ∈ W'.ws := fun b hb => m'.wrws b (q3 b hb)
          have ex := base fp [(a, fp)] hx
          have fr : ∀ b ∈ fp, b ∉ W.ws ∧ b ∉ W.wr ∧ b ∉ W.pv := fun b hb => s.m.fresh (hn b hb)
          refine k (.ref a) (.cel C3.length) { H := W'.H, ws := fp ++ W.ws, wr := fp ++ W.wr, pv := W.pv, As := W.As ++ [(a, fp)] } (C3 ++ [dc]) ex ⟨?_, s.s.mono s.m ex, Gd.ext s.g ex⟩ ⟨a, fp, ?_, rfl⟩ h
          · have old : ∀ (i : Nat) u, (C3 ++ [dc])[i]? = some u → (i < C3.length ∧ C3[i]? = some u) ∨ (i = C3.length ∧ u = dc) := fun i u h => by
              by_cases q : i < C3.length
              · rw [List.getElem?_append_left q] at h; exact .inl ⟨q, h⟩
              · rw [List.getElem?_append_right (by omega)] at h
                have e : i - C3.length = 0 := by
                  by_cases r : i - C3.length = 0
                  · exact r
                  · rw [List.getElem?_eq_none (by simp; omega)] at h; cases h
                rw [e] at h
                exact .inr ⟨by omega, (Option.some.inj h).symm⟩
            have lenA : C3.length = W.As.length := by rw [b1]; exact s.m.len
            have oldA : ∀ (i : Nat) u, (W.As ++ [(a, fp)])[i]? = some u → i < C3.length → W.As[i]? = some u := fun i u h q => by
              rw [List.getElem?_append_left (by rw [← lenA]; exact q)] at h; exact h
            have newA : ∀ u, (W.As ++ [(a, fp)])[C3.length]? = some u → u = (a, fp) := fun u h => by
              rw [lenA, List.getElem?_append_right (Nat.le_refl _), Nat.sub_self] at h
              exact (Option.some.inj h).symm
            refine ⟨fun b hb => ?_, fun b hb => List.mem_append_right _ (s.m.pvws b hb), fun b hb z => ?_, fun b hb => ?_, ?_, fun i u a1 fp1 h1 h2 h3 => ?_, fun i j2 u u' a1 fp1 a2 fp2 hij h1 h2 h3 h4 h5 h6 b hb hb' => ?_⟩
            · rcases List.mem_append.mp hb with q | q
              · exact List.mem_append_left _ q
              · exact List.mem_append_right _ (s.m.wrws b q)
            · rcases List.mem_append.mp hb with q | q
              · exact (fr b q).2.2 z
              · exact s.m.dis b q z
            · rcases List.mem_append.mp hb with q | q
              · exact (hx b q).2
              · exact e.there b (s.m.dom b q)
            · show (C3 ++ [_]).length = (W.As ++ [_]).length
              rw [List.length_append, List.length_append, lenA]; rfl
            · rcases old i u h1 with ⟨q, r⟩ | ⟨q, r⟩
              · obtain ⟨g1, g2, _⟩ := cells fp [(a, fp)] hx hx2 i u a1 fp1 r (oldA i _ h2 q) h3
                exact ⟨g1, fun b hb => List.mem_append_right _ (g2 b hb)⟩
              · subst q r
                have e2 := newA _ h2
                cases e2
                exact ⟨q1.pers (persW' fp [(a, fp)] hx2) fun _ _ => rfl, fun b hb => List.mem_append_left _ hb⟩
            · have wrOf : ∀ (i : Nat) (u : DC) (a1 : Addr) (fp1 : List Addr), C3[i]? = some u → live u → W.As[i]? = some (a1, fp1) → ∀ b ∈ fp, b ∉ fp1 := fun i u a1 fp1 r l ha b hb z => (fr b hb).2.1 ((cells fp [(a, fp)] hx hx2 i u a1 fp1 r ha l).2.1 b z)
              rcases old i u h1 with ⟨q, r⟩ | ⟨q, r⟩
              · rcases old j2 u' h3 with ⟨q', r'⟩ | ⟨q', r'⟩
                · exact memB.sep i j2 u u' a1 fp1 a2 fp2 hij r h2 r' h4 (oldA i _ h5 q) (oldA j2 _ h6 q') b hb hb'
                · subst q'
                  have e2 := newA _ h6
                  cases e2
                  exact wrOf i u a1 fp1 r h2 (oldA i _ h5 q) b hb' hb
              · subst q
                have e2 := newA _ h5
                cases e2
                rcases old j2 u' h3 with ⟨q', r'⟩ | ⟨q', r'⟩
                · exact wrOf j2 u' a2 fp2 r' h4 (oldA j2 _ h6 q') b hb hb'
                · exact hij q'.symm
          · show (W.As ++ [(a, fp)])[C3.length]? = _
            rw [b1, s.m.len, List.getElem?_append_right (Nat.le_refl _), Nat.sub_self]; rfl
        split at h
        · rename_i l hl; exact go (.lst l) hl trivial h.1 h.2
        · rename_i P st hl; exact go (.abs P st) hl trivial h.1 h.2
        · rename_i c f kvs hl; exact go (.dob c f kvs) hl trivial h.1 h.2
        · rename_i kvs hl; exact go (.dct kvs) hl trivial h.1 h.2
        · exact h.elim
    · exact h.elim
  · exact h.elim
/-- THE RULE of calls -/
theorem call_ok {n : Nat} {d : DSp} {mds : List Md} {W : Wd} {C : Cs} {vs : List V} {xs : List DV} {QD : DV → Cs → Prop} {Q : VK} {E : XK} (s : Sta K W S C σ) (r : RepVs K W vs xs) (hn : vs.length = n) (h : callD mds d xs C QD)
    (k : ∀ v x W' C', Ext W W' → Sta K W' S C' σ → RepV K W' v x → QD x C' → Q v W'.H) : rawSp K n d vs W.H Q E := by
  obtain ⟨zs, is, bs, C1, W1, e1, hH1, s1, nd1, ry1, h1⟩ := prep_ok s List.nodup_nil r (.nil (K := K) (W := W) (C := C) (is := []) (bs := [])) h
  split at h1
  · rename_i hb
    have hb' : ∀ b ∈ bs, b ∉ is := fun b hbm z => by
      have := List.all_eq_true.mp hb b hbm
      rw [List.contains_iff_mem.mpr z] at this
      cases this
    obtain ⟨mi, ti⟩ := inW_mem s1.m nd1
    refine ⟨hn, inW W1 C1 is, passD C1 is, zs, hH1, rfl, mi, ti, ry1.inW s1.m hb', _, h1, fun r C' hr W' v e m' rv => ?_⟩
    exact ret_ok s1 nd1 e m' rv hr fun v x W2 C2 e2 s2 r2 q2 => k v x W2 C2 (e1.trans e2) s2 r2 q2
  · exact h1.elim
end
end Z

set_option Elab.async false
set_option linter.all false
set_option maxRecDepth 100000
set_option maxHeartbeats 4000000
/-! ### calls over trees, as rules -/
namespace Z
open PySem PySem.Spec PyProof.Rows L2
structure QK (K : PySem.W.Frag) [Gd K] (X : Cx) (kws : List Keyword) (n : Nat) (t : TA) (d : DTA) : Prop where
  p : PK X kws t
  r : RefA K n t d
def dCallF (mds : List Md) (d : DSp) (dds : List DV) (dt : DTA) : DTE := fun S C Q => dt S C fun xs C1 => callD mds d (xs ++ dds) C1 Q
def dCallK (mds : List Md) (d : DSp) (g : List DV → List DV → List DV) (dt dk : DTA) : DTE := fun S C Q => dt S C fun xs C1 => dk S C1 fun ys C2 => callD mds d (g xs ys) C2 Q
/-- an instance that is a record of its fields -/
def recSp (K : PySem.W.Frag) (c : Str) (fs : List Str) : Sp := fun vs H Q _ => ∃ a dx xs, vs = .ref a :: xs ∧ xs.length = fs.length ∧ H a = some (.ins (He.ga K c) dx []) ∧ Q .non (L2.upd H a (.ins (He.ga K c) dx (fs.zip xs)))
def dRec (c : Str) (fs : List Str) (dds : List DV) (dt : DTA) : DTE := fun S C Q => dt S C fun xs C1 => frzs (xs ++ dds) C1 fun ds C2 => Q (.of (.ins c (fs.zip ds))) C2
def dRecK (c : Str) (fs : List Str) (g : List DV → List DV → List DV) (dt dk : DTA) : DTE := fun S C Q => dt S C fun xs C1 => dk S C1 fun ys C2 => frzs (g xs ys) C2 fun ds C3 => Q (.of (.ins c (fs.zip ds))) C3
def dMeth (c m : Str) (mds : List Md) (d : DSp) (dds : List DV) (de : DTE) (dt : DTA) : DTE := fun S C Q => de S C fun x C1 => match x with
  | .of (.ins c' gs) => (c' = c ∧ gs.lookup m = none) ∧ dt S C1 fun xs C2 => callD mds d (.of (.ins c' gs) :: (xs ++ dds)) C2 Q
  | _ => False
section
variable {K : PySem.W.Frag} [Gd K] {X : Cx} {CX : CXT} {k j n m : Nat} {x c : Str} {d : DSp} {mds : List Md} {dvs : List V} {dds : List DV} {p pos apos : Pos} {e o : Expr} {es : List Expr} {te : TE} {de : DTE} {t tk : TA} {dt dk : DTA} {E : XK} {kws : List Keyword} {ks : List Str} {gV : List V → List V → List V} {gD : List DV → List DV → List DV}
theorem qk_nil : QK K X [] 0 tNil dNil := ⟨pk_nil, fun W S C σ st QD Q h k => k [] [] W C rfl .refl st .nil h⟩
theorem qk_cons {nm : Option Str} {kpos : Pos} {e : Expr} {te : TE} {de : DTE} {n : Nat} {t : TA} {dt : DTA} (ha : QE K X e te de) (hr : QK K X kws n t dt) : QK K X (⟨nm, e, kpos⟩ :: kws) (n + 1) (tCons te t) (dCons de dt) :=
  ⟨pk_cons ha.p hr.p, fun W S C σ st QD Q h k => ha.r W S C σ st _ _ h fun v x W1 C1 e1 s1 r1 h1 => hr.r W1 S C1 σ s1 _ _ h1 fun vs xs W2 C2 hl e2 s2 r2 h2 =>
    k (v :: vs) (x :: xs) W2 C2 (congrArg (· + 1) hl) (e1.trans e2) s2 (.cons _ _ _ _ (r1.mono s1.m e2) r2) h2⟩
theorem refE_call (ha : RefA K m t dt) (hd : ∀ W, RepVs K W dvs dds) (hn : m + dds.length = n) : RefE K (tCall (rawSp K n d) dvs E t) (dCallF mds d dds dt) := fun W S C σ s QD Q q k =>
  ha W S C σ s _ _ q fun vs xs W1 C1 hl e1 s1 r1 q1 => call_ok s1 (r1.app (hd W1)) (by rw [List.length_append, hl, (hd W1).len]; exact hn) q1 (KV.ext k e1)
theorem qc (h : Callee X.prog X.w K X.mg X.base CX k x (rawSp K n d) dvs) (hd : ∀ W, RepVs K W dvs dds) (hr : Room j X.A) (hk : k ≤ j) (hx : Passes CX X E) (hK : X.K = K) (hg : Gl X x) (ha : QA K X (e :: es) m t dt) (hn : m + dds.length = n := by rfl)
    (hdb : (x == ("__debug__" : Str)) = false := by decide) (he : starEach (e :: es) X.env = (false, eval e X.env) :: starEach es X.env := by rfl) (hpl : (backTo pos (starEach es X.env)).any (·.1) = false := by rfl) :
    QE K X (.Call (.Name x p) (e :: es) [] pos) (tCall (rawSp K n d) dvs E t) (dCallF mds d dds dt) := ⟨by subst hK; exact pc h hr hk hx hg ha.p hdb he hpl, refE_call ha.r hd hn⟩
theorem qc0 (h : Callee X.prog X.w K X.mg X.base CX k x (rawSp K n d) dvs) (hd : ∀ W, RepVs K W dvs dds) (hr : Room j X.A) (hk : k ≤ j) (hx : Passes CX X E) (hK : X.K = K) (hg : Gl X x) (hn : 0 + dds.length = n := by rfl)
    (hdb : (x == ("__debug__" : Str)) = false := by decide) : QE K X (.Call (.Name x p) [] [] pos) (tCall (rawSp K n d) dvs E tNil) (dCallF mds d dds dNil) :=
  ⟨by subst hK; exact pc0 h hr hk hx hg hdb, refE_call (fun W S C σ st QD Q h k => k [] [] W C rfl .refl st .nil h) hd hn⟩
/-- how arguments come to places, of values and of trees alike -/
def GRel (K : PySem.W.Frag) (n m l : Nat) (gV : List V → List V → List V) (gD : List DV → List DV → List DV) : Prop :=
  ∀ W vs zs xs ys, RepVs K W vs xs → RepVs K W zs ys → vs.length = n → zs.length = m → RepVs K W (gV vs zs) (gD xs ys) ∧ (gV vs zs).length = l
theorem refE_callN {n' : Nat} (ha : RefA K n t dt) (hkk : RefA K m tk dk) (hg : GRel K n m n' gV gD) : RefE K (tCallN n m (rawSp K n' d) gV E t tk) (dCallK mds d gD dt dk) := fun W S C σ s QD Q q k =>
  ha W S C σ s _ _ q fun vs xs W1 C1 hl e1 s1 r1 q1 => hkk W1 S C1 σ s1 _ _ q1 fun zs ys W2 C2 hl2 e2 s2 r2 q2 => by
    obtain ⟨g1, g2⟩ := hg W2 vs zs xs ys (r1.mono s1.m e2) r2 hl hl2
    exact ⟨hl, hl2, call_ok s2 g1 g2 q2 (KV.ext k (e1.trans e2))⟩
theorem qck {n' : Nat} (h : CalleeK X.prog X.w K X.mg X.base CX k x (rawSp K n' d) n ks gV) (hG : GRel K n ks.length n' gV gD) (hr : Room j X.A) (hk : k ≤ j) (hx : Passes CX X E) (hK : X.K = K) (hg : Gl X x) (ha : QA K X (e :: es) n t dt) (hkw : QK K X kws ks.length tk dk)
    (hall : (backToKw pos (keywordEach kws X.env)).all (·.1.isSome) = true := by rfl) (hks : (backToKw pos (keywordEach kws X.env)).filterMap (·.1) = ks := by rfl)
    (hdb : (x == ("__debug__" : Str)) = false := by decide) (he : starEach (e :: es) X.env = (false, eval e X.env) :: starEach es X.env := by rfl)
    (hpl : ((backTo pos (starEach (e :: es) X.env)).any (·.1) || (backToKw pos (keywordEach kws X.env)).any (·.1.isNone)) = false := by rfl) :
    QE K X (.Call (.Name x p) (e :: es) kws pos) (tCallN n ks.length (rawSp K n' d) gV E t tk) (dCallK mds d gD dt dk) := ⟨by subst hK; exact pck h hr hk hx hg ha.p hkw.p hall hks hdb he hpl, refE_callN ha.r hkw.r hG⟩
theorem refA_nil : RefA K 0 tNil dNil := fun W S C σ st QD Q h k => k [] [] W C rfl .refl st .nil h
theorem qck0 {n' : Nat} (h : CalleeK X.prog X.w K X.mg X.base CX k x (rawSp K n' d) 0 ks gV) (hG : GRel K 0 ks.length n' gV gD) (hr : Room j X.A) (hk : k ≤ j) (hx : Passes CX X E) (hK : X.K = K) (hg : Gl X x) (hkw : QK K X kws ks.length tk dk)
    (hall : (backToKw pos (keywordEach kws X.env)).all (·.1.isSome) = true := by rfl) (hks : (backToKw pos (keywordEach kws X.env)).filterMap (·.1) = ks := by rfl)
    (hdb : (x == ("__debug__" : Str)) = false := by decide)
    (hpl : ((backTo pos (starEach [] X.env)).any (·.1) || (backToKw pos (keywordEach kws X.env)).any (·.1.isNone)) = false := by rfl) :
    QE K X (.Call (.Name x p) [] kws pos) (tCallN 0 ks.length (rawSp K n' d) gV E tNil tk) (dCallK mds d gD dNil dk) := ⟨by subst hK; exact pck0 h hr hk hx hg hkw.p hall hks hdb hpl, refE_callN refA_nil hkw.r hG⟩
/-! records -/
theorem rec_ok {W : Wd} {S : Sl} {C : Cs} {σ : L2.St} {fs : List Str} {vs : List V} {xs : List DV} {QD : DV → Cs → Prop} {Q : VK} (s : Sta K W S C σ) (r : RepVs K W vs xs) (hn : vs.length = fs.length) (h : frzs xs C fun ds C2 => QD (.of (.ins c (fs.zip ds))) C2)
    (k : KV K W S σ QD Q) : ∀ a dx, W.H a = none → W.H dx = none → dx ≠ a → recSp K c fs (.ref a :: vs) (L2.upd (L2.upd W.H dx (.own a)) a (.ins (He.ga K c) dx [])) (fun v H2 => v = .non ∧ Q (.ref a) H2) E := fun a dx h1 h2 h3 => by
  obtain ⟨ds, W2, C2, e2, hH, s2, r2, q2⟩ := frzs_ok s r h
  refine ⟨a, dx, vs, rfl, hn, upd_same, rfl, ?_⟩
  rw [upd_upd, ← hH]
  rw [← hH] at h1 h2
  have h1' : (W2.new dx (.own a)).H a = none := by show L2.upd W2.H dx _ a = none; rw [upd_ne h3.symm]; exact h1
  have ea : Ext W2 (W2.new dx (.own a)) := Ext.new h2
  have eb : Ext (W2.new dx (.own a)) ((W2.new dx (.own a)).new a (.ins (He.ga K c) dx (fs.zip vs))) := Ext.new h1'
  have s3 := (s2.new (o := .own a) h2).new (o := .ins (He.ga K c) dx (fs.zip vs)) h1'
  refine k (.ref a) (.of (.ins c (fs.zip ds))) ((W2.new dx (.own a)).new a (.ins (He.ga K c) dx (fs.zip vs))) C2 (e2.trans (ea.trans eb)) s3 (Rep.ins a dx c (fs.zip vs) (fs.zip ds) upd_same ?_ (Reps.zipF (Reps.mono ((ea.trans eb).pers s2.m.wrws) r2))) q2
  exact ((s2.m.new (o := .own a) h2).fresh h1').1
theorem qmk {fs : List Str} (h : Maker X.prog X.w K X.mg X.base CX k c (recSp K c fs) dvs) (hd : ∀ W, RepVs K W dvs dds) (hr : Room j X.A) (hk : k + 1 ≤ j) (hx : Passes CX X E) (hK : X.K = K) (hg : Gl X c) (ha : QA K X (e :: es) m t dt) (hn : m + dds.length = fs.length := by rfl)
    (hdb : (c == ("__debug__" : Str)) = false := by decide) (he : starEach (e :: es) X.env = (false, eval e X.env) :: starEach es X.env := by rfl) (hpl : (backTo pos (starEach es X.env)).any (·.1) = false := by rfl) :
    QE K X (.Call (.Name c p) (e :: es) [] pos) (tMake (He.ga K c) (recSp K c fs) dvs E t) (dRec c fs dds dt) := ⟨by subst hK; exact pmk h hr hk hx hg ha.p hdb he hpl, fun W S C σ s QD Q q k =>
  ha.r W S C σ s _ _ q fun vs xs W1 C1 hl e1 s1 r1 q1 => rec_ok s1 (r1.app (hd W1)) (by rw [List.length_append, hl, (hd W1).len]; exact hn) q1 (KV.ext k e1)⟩
theorem refE_makeN {fs : List Str} (ha : RefA K n t dt) (hkk : RefA K m tk dk) (hG : ∀ W vs zs xs ys, RepVs K W vs xs → RepVs K W zs ys → vs.length = n → zs.length = m → ∃ us, (∀ v, gV (v :: vs) zs = v :: us) ∧ RepVs K W us (gD xs ys) ∧ us.length = fs.length) :
    RefE K (tMakeN (He.ga K c) n m (recSp K c fs) gV E t tk) (dRecK c fs gD dt dk) := fun W S C σ s QD Q q k =>
  ha W S C σ s _ _ q fun vs xs W1 C1 hl e1 s1 r1 q1 => hkk W1 S C1 σ s1 _ _ q1 fun zs ys W2 C2 hl2 e2 s2 r2 q2 => by
    obtain ⟨us, g0, g1, g2⟩ := hG W2 vs zs xs ys (r1.mono s1.m e2) r2 hl hl2
    refine ⟨hl, hl2, fun a dx h1 h2 h3 => ?_⟩
    rw [g0]
    exact rec_ok s2 g1 g2 q2 (KV.ext k (e1.trans e2)) a dx h1 h2 h3
theorem qmkk {fs : List Str} (h : MakerK X.prog X.w K X.mg X.base CX k c (recSp K c fs) n ks gV) (hG : ∀ W vs zs xs ys, RepVs K W vs xs → RepVs K W zs ys → vs.length = n → zs.length = ks.length → ∃ us, (∀ v, gV (v :: vs) zs = v :: us) ∧ RepVs K W us (gD xs ys) ∧ us.length = fs.length)
    (hr : Room j X.A) (hk : k + 1 ≤ j) (hx : Passes CX X E) (hK : X.K = K) (hg : Gl X c) (ha : QA K X (e :: es) n t dt) (hkw : QK K X kws ks.length tk dk)
    (hall : (backToKw pos (keywordEach kws X.env)).all (·.1.isSome) = true := by rfl) (hks : (backToKw pos (keywordEach kws X.env)).filterMap (·.1) = ks := by rfl)
    (hdb : (c == ("__debug__" : Str)) = false := by decide) (he : starEach (e :: es) X.env = (false, eval e X.env) :: starEach es X.env := by rfl)
    (hpl : ((backTo pos (starEach (e :: es) X.env)).any (·.1) || (backToKw pos (keywordEach kws X.env)).any (·.1.isNone)) = false := by rfl) :
    QE K X (.Call (.Name c p) (e :: es) kws pos) (tMakeN (He.ga K c) n ks.length (recSp K c fs) gV E t tk) (dRecK c fs gD dt dk) := ⟨by subst hK; exact pmkk h hr hk hx hg ha.p hkw.p hall hks hdb he hpl, refE_makeN ha.r hkw.r hG⟩
theorem qmkk0 {fs : List Str} (h : MakerK X.prog X.w K X.mg X.base CX k c (recSp K c fs) 0 ks gV) (hG : ∀ W vs zs xs ys, RepVs K W vs xs → RepVs K W zs ys → vs.length = 0 → zs.length = ks.length → ∃ us, (∀ v, gV (v :: vs) zs = v :: us) ∧ RepVs K W us (gD xs ys) ∧ us.length = fs.length)
    (hr : Room j X.A) (hk : k + 1 ≤ j) (hx : Passes CX X E) (hK : X.K = K) (hg : Gl X c) (hkw : QK K X kws ks.length tk dk)
    (hall : (backToKw pos (keywordEach kws X.env)).all (·.1.isSome) = true := by rfl) (hks : (backToKw pos (keywordEach kws X.env)).filterMap (·.1) = ks := by rfl)
    (hdb : (c == ("__debug__" : Str)) = false := by decide)
    (hpl : ((backTo pos (starEach [] X.env)).any (·.1) || (backToKw pos (keywordEach kws X.env)).any (·.1.isNone)) = false := by rfl) :
    QE K X (.Call (.Name c p) [] kws pos) (tMakeN (He.ga K c) 0 ks.length (recSp K c fs) gV E tNil tk) (dRecK c fs gD dNil dk) := ⟨by subst hK; exact pmkk0 h hr hk hx hg hkw.p hall hks hdb hpl, refE_makeN refA_nil hkw.r hG⟩
/-! methods of such instances -/
theorem refE_meth {ms : Str} (he : RefE K te de) (ha : RefA K m t dt) (hd : ∀ W, RepVs K W dvs dds) (hn : m + dds.length + 1 = n) : RefE K (tMeth (He.ga K c) ms (rawSp K n d) dvs E te t) (dMeth c ms mds d dds de dt) := fun W S C σ s QD Q q k =>
  he W S C σ s _ _ q fun v x W1 C1 e1 s1 r1 q1 => by
    split at q1
    · obtain ⟨⟨rfl, hlk⟩, q1⟩ := q1
      have r1' := r1
      cases r1 with
      | ins a dx c' fs gs h n' rr =>
        refine ⟨a, dx, fs, rfl, h, RepF.lookN rr hlk, ha W1 S C1 σ s1 _ _ q1 fun vs xs W2 C2 hl e2 s2 r2 q2 => ?_⟩
        exact call_ok s2 (.cons _ _ _ _ (RepV.mono (x := .of (.ins _ _)) s1.m e2 r1') (r2.app (hd W2))) (by rw [List.length_cons, List.length_append, hl, (hd W2).len]; exact hn) q2 (KV.ext k (e1.trans e2))
    · exact q1.elim
theorem qmt {pl : Sem Bool} {ms : Str} (h : MethC X.prog X.w K X.mg X.base CX k c ms (rawSp K n d) dvs) (hd : ∀ W, RepVs K W dvs dds) (hr : Room j X.A) (hk : k ≤ j) (hx : Passes CX X E) (hK : X.K = K) (ho : QE K X o te de) (ha : QA K X (e :: es) m t dt) (hn : m + dds.length + 1 = n := by rfl)
    (hst : starEach (e :: es) X.env = (false, eval e X.env) :: starEach es X.env := by rfl) (hpl : (backTo pos (starEach es X.env)).any (·.1) = false := by rfl)
    (ht : eval (.Call (.Attribute o ms apos) (e :: es) [] pos) X.env = (do
      let ov ← eval o X.env
      standAt apos.atName
      let (f, first) ← holding [ov] (getMethod ov ms pl)
      callWith pos f first (backTo pos (starEach (e :: es) X.env)) (backToKw pos (keywordEach [] X.env))) := by rfl) :
    QE K X (.Call (.Attribute o ms apos) (e :: es) [] pos) (tMeth (He.ga K c) ms (rawSp K n d) dvs E te t) (dMeth c ms mds d dds de dt) := ⟨by subst hK; exact pmt h hr hk hx ho.p ha.p hst hpl ht, refE_meth ho.r ha.r hd hn⟩
theorem qmt0 {pl : Sem Bool} {ms : Str} (h : MethC X.prog X.w K X.mg X.base CX k c ms (rawSp K n d) dvs) (hd : ∀ W, RepVs K W dvs dds) (hr : Room j X.A) (hk : k ≤ j) (hx : Passes CX X E) (hK : X.K = K) (ho : QE K X o te de) (hn : 0 + dds.length + 1 = n := by rfl)
    (ht : eval (.Call (.Attribute o ms apos) [] [] pos) X.env = (do
      let ov ← eval o X.env
      standAt apos.atName
      let (f, first) ← holding [ov] (getMethod ov ms pl)
      callWith pos f first (backTo pos (starEach [] X.env)) (backToKw pos (keywordEach [] X.env))) := by rfl) :
    QE K X (.Call (.Attribute o ms apos) [] [] pos) (tMeth (He.ga K c) ms (rawSp K n d) dvs E te tNil) (dMeth c ms mds d dds de dNil) := ⟨by subst hK; exact pmt0 h hr hk hx ho.p ht, refE_meth ho.r refA_nil hd hn⟩
/-! enumerate, zip -/
theorem qi_enumQ {e1 : Expr} {elts : List Expr} {kk : Nat} {tpos p : Pos} (hK : X.K = K) (hg : Gl X "enumerate") (hm : X.mg "enumerate" = none) (ha : QA K X [e1] 1 t dt) (hs : starEach [e1] X.env = [(false, eval e1 X.env)] := by rfl) : QI K X (.Tuple elts kk tpos) (.Call (.Name "enumerate" p) [e1] [] pos) (iEnum K t) (iqEn dt) :=
  qi_enum hK hg hm (by subst hK; exact pi_enum hg hm ha.p hs) ha
theorem qi_zipQ {e1 e2 : Expr} {elts : List Expr} {kk : Nat} {tpos p : Pos} (hK : X.K = K) (hg : Gl X "zip") (hm : X.mg "zip" = none) (ha : QA K X [e1, e2] 2 t dt) (hs : starEach [e1, e2] X.env = (false, eval e1 X.env) :: starEach [e2] X.env := by rfl) (hpl : (backTo pos (starEach [e2] X.env)).any (·.1) = false := by rfl) :
    QI K X (.Tuple elts kk tpos) (.Call (.Name "zip" p) [e1, e2] [] pos) (iZip K t) (iqZp dt) := qi_zip hK (by subst hK; exact pi_zip hg hm ha.p hs hpl) ha
/-! texts given by their codes -/
theorem qe_strc {x : Str} {l : List Nat} {j pos} (h : cl x = l) : QE K X (.Constant (.str x) j pos) (tC (.str x)) (dC (.str l)) := ⟨pe_str, refE_c fun _ => rep_of h⟩
end
/-! one bag of draws -/
def Bag (n f : Int) : Prop := (f = 0 ∧ 0 ≤ n ∧ n < 10 ^ 180) ∨ (f ≠ 0 ∧ 0 < f ∧ 0 ≤ n ∧ n < 2147483647)
def BagP : CellP := fun _ W a fp => fp = [a] ∧ ∃ n f : Int, W.H a = some (.lst [.int n, .int f]) ∧ Bag n f
theorem bagP_st : StableP BagP := fun K W W' a fp h _ s => by
  obtain ⟨rfl, n, f, h1, h2⟩ := h
  exact ⟨rfl, n, f, by rw [s a (by simp)]; exact h1, h2⟩
def bag : DC := .abs BagP bagP_st
/-! the script -/
theorem scr_of {K : PySem.W.Frag} {H : Hp} {a : Addr} {ns : List Int} (h : SqL K H a (ns.map V.int)) : RepV K ⟨H, [], [], [], []⟩ (.ref a) (.scr (ns.map D.int)) := by
  refine ⟨a, ns.map V.int, rfl, ?_, ?_⟩
  · rcases h with h | ⟨o, its, n, q⟩
    · exact .inl ⟨h, by simp, by simp⟩
    · exact .inr fun H => .inr ⟨o, its, n, q⟩
  · induction ns with
    | nil => exact .nil
    | cons i r ih => exact .cons _ _ _ _ (.int i) (by
        have : ∀ l : List Int, Reps K ⟨H, [], [], [], []⟩ (l.map V.int) (l.map D.int) := by
          intro l
          induction l with
          | nil => exact .nil
          | cons j q ih => exact .cons _ _ _ _ (.int j) ih
        exact this r)
theorem mem0 {K : PySem.W.Frag} {H : Hp} : Mem K ⟨H, [], [], [], []⟩ [] := ⟨fun b h => by simp at h, fun b h => by simp at h, fun b h => by simp at h, fun b h => by simp at h, rfl, fun i dc a fp h => by simp at h, fun i j dc dc' a fp a' fp' _ h => by simp at h⟩
end Z

set_option Elab.async false
set_option linter.all false
set_option maxRecDepth 100000
set_option maxHeartbeats 4000000
namespace Z
open PySem PySem.Spec PyProof.Rows L2
/-! ### equal or not -/
theorem seqE_nil {E : V → V → Bool → Prop} : SeqE E [] [] true := ⟨fun _ => true, fun j x y h => by simp at h, rfl⟩
theorem seqE_nc {E : V → V → Bool → Prop} {y : V} {ys : List V} : SeqE E [] (y :: ys) false := ⟨fun _ => true, fun j x y h => by simp at h, by simp⟩
theorem seqE_cn {E : V → V → Bool → Prop} {x : V} {xs : List V} : SeqE E (x :: xs) [] false := ⟨fun _ => true, fun j x y _ h => by simp at h, by simp⟩
theorem seqE_cons {E : V → V → Bool → Prop} {x y : V} {xs ys : List V} {b c : Bool} (h : E x y b) (t : SeqE E xs ys c) : SeqE E (x :: xs) (y :: ys) (b && c) := by
  obtain ⟨e, h1, h2⟩ := t
  refine ⟨fun j => match j with | 0 => b | j + 1 => e j, fun j u v hu hv => ?_, ?_⟩
  · cases j with
    | zero =>
      have e1 : x = u := Option.some.inj hu
      have e2 : y = v := Option.some.inj hv
      subst e1 e2
      exact h
    | succ j => exact h1 j u v hu hv
  · subst h2
    have hm : min (x :: xs).length (y :: ys).length = min xs.length ys.length + 1 := by simp only [List.length_cons]; omega
    rw [hm, List.range_succ_eq_map, List.all_cons, List.all_map]
    have hd : decide ((x :: xs).length = (y :: ys).length) = decide (xs.length = ys.length) := by rw [decide_eq_decide]; simp
    rw [hd, Bool.and_assoc]
    rfl
end Z

set_option Elab.async false
set_option linter.all false
set_option maxRecDepth 100000
set_option maxHeartbeats 4000000
/-! ### == of trees; further built-ins -/
namespace Z
open PySem PySem.Spec PyProof.Rows L2
mutual
def eqD : D → D → Bool
  | .tup a, .tup b => eqDs a b
  | .lst a, .lst b => eqDs a b
  | a, b => eqF a b
def eqDs : List D → List D → Bool
  | [], [] => true
  | a :: as, b :: bs => eqD a b && eqDs as bs
  | _, _ => false
end
mutual
/-- no instance within, so deep at the most -/
def plD : Nat → D → Bool
  | _, .non => true
  | _, .bl _ => true
  | _, .int _ => true
  | _, .str _ => true
  | n + 1, .tup l => plDs n l
  | n + 1, .lst l => plDs n l
  | _, _ => false
def plDs : Nat → List D → Bool
  | _, [] => true
  | n, d :: r => plD n d && plDs n r
end
section
variable {K : PySem.W.Frag} [Gd K] {W : Wd} {S : Sl} {C : Cs} {σ : L2.St}
theorem eqD_flat {a b : D} (h : flatD a = true) : eqD a b = eqF a b := by
  cases a <;> first | (cases h; done) | rfl
theorem flat_pl {d : D} {n : Nat} (h : plD n d = true) : flatD d = true ∨ (∃ l m, n = m + 1 ∧ plDs m l = true ∧ (d = .tup l ∨ d = .lst l)) := by
  cases d with
  | non => exact .inl rfl
  | bl b => exact .inl rfl
  | int i => exact .inl rfl
  | str l => exact .inl rfl
  | tup l => cases n with
    | zero => cases (show false = true from h)
    | succ m => exact .inr ⟨l, m, rfl, h, .inl rfl⟩
  | lst l => cases n with
    | zero => cases (show false = true from h)
    | succ m => exact .inr ⟨l, m, rfl, h, .inr rfl⟩
  | ins c fs => cases n <;> cases (show false = true from h)
  | val v => cases n <;> cases (show false = true from h)
theorem rep_lst {v : V} {l : List D} (r : Rep K W v (.lst l)) : ∃ a us, v = .ref a ∧ SqL K W.H a us ∧ Reps K W us l := by
  cases r with
  | lst a us ds h n r => exact ⟨a, us, rfl, SqL.of h, r⟩
theorem seqE_D {n : Nat} (ih : ∀ {v u : V} {a b : D}, Rep K W v a → Rep K W u b → plD n a = true → plD n b = true → EqW K W.H n v u (eqD a b)) :
    ∀ {vs us : List V} {as bs : List D}, Reps K W vs as → Reps K W us bs → plDs n as = true → plDs n bs = true → SeqE (EqW K W.H n) vs us (eqDs as bs)
  | _, _, _, _, .nil, .nil, _, _ => seqE_nil
  | _, _, _, _, .nil, .cons _ _ _ _ _ _, _, _ => seqE_nc
  | _, _, _, _, .cons _ _ _ _ _ _, .nil, _, _ => seqE_cn
  | _, _, _, _, .cons _ _ _ _ h t, .cons _ _ _ _ h' t', p, q => by
    have p' := Bool.and_eq_true_iff.mp (show (plD n _ && plDs n _) = true from p)
    have q' := Bool.and_eq_true_iff.mp (show (plD n _ && plDs n _) = true from q)
    exact seqE_cons (ih h h' p'.1 q'.1) (seqE_D ih t t' p'.2 q'.2)
theorem eqF_ref {v u : V} {a b : D} (ra : Rep K W v a) (rb : Rep K W u b) (ha : flatD a = true) (hb : flatD b = true) {n : Nat} : EqW K W.H n v u (eqF a b) := by
  rw [← eqF_ok ra rb ha hb]; exact EqW.flat (flat_rep ra ha) (flat_rep rb hb)
theorem eqF_fs {a : D} {l : List D} (h : flatD a = true) : eqF a (.tup l) = false ∧ eqF a (.lst l) = false ∧ eqF (.tup l) a = false ∧ eqF (.lst l) a = false := by
  cases a <;> first | exact ⟨rfl, rfl, rfl, rfl⟩ | (cases h; done)
abbrev TopD (K : PySem.W.Frag) (H : Hp) (n : Nat) (x y : V) (b : Bool) : Prop := (flatV x = true ∧ flatV y = true ∧ b = eqV x y) ∨ EqT K H (EqW K H n) x y b
theorem topE_D {n : Nat} (ih : ∀ {v u : V} {a b : D}, Rep K W v a → Rep K W u b → plD n a = true → plD n b = true → EqW K W.H n v u (eqD a b)) {v u : V} {a b : D} (ra : Rep K W v a) (rb : Rep K W u b) (pa : plD (n + 1) a = true) (pb : plD (n + 1) b = true) : TopD K W.H n v u (eqD a b) := by
  rcases flat_pl pa with fa | ⟨l, m, e, pl, hd⟩
  · rcases flat_pl pb with fb | ⟨l', m', e', pl', hd'⟩
    · rw [eqD_flat fa, ← eqF_ok ra rb fa fb]
      exact .inl ⟨flat_rep ra fa, flat_rep rb fb, rfl⟩
    · obtain ⟨q1, q2, _, _⟩ := eqF_fs (l := l') fa
      refine .inr (.inr (.inr (.inr (.inr (.inr ?_)))))
      rcases hd' with rfl | rfl
      · obtain ⟨c, us, rfl, h1, h2⟩ := rep_tup rb
        exact ⟨c, us, rfl, .inr h1, flat_rep ra fa, by rw [eqD_flat fa, q1]⟩
      · obtain ⟨c, us, rfl, h1, h2⟩ := rep_lst rb
        exact ⟨c, us, rfl, .inl h1, flat_rep ra fa, by rw [eqD_flat fa, q2]⟩
  · cases e
    rcases flat_pl pb with fb | ⟨l', m', e', pl', hd'⟩
    · obtain ⟨_, _, q3, q4⟩ := eqF_fs (l := l) fb
      refine .inr (.inr (.inr (.inr (.inr (.inl ?_)))))
      rcases hd with rfl | rfl
      · obtain ⟨c, us, rfl, h1, h2⟩ := rep_tup ra
        refine ⟨c, us, rfl, .inr h1, flat_rep rb fb, ?_⟩
        rw [← q3]; cases b <;> first | (cases fb; done) | rfl
      · obtain ⟨c, us, rfl, h1, h2⟩ := rep_lst ra
        refine ⟨c, us, rfl, .inl h1, flat_rep rb fb, ?_⟩
        rw [← q4]; cases b <;> first | (cases fb; done) | rfl
    · cases e'
      rcases hd with rfl | rfl
      · obtain ⟨c, us, rfl, h1, h2⟩ := rep_tup ra
        rcases hd' with rfl | rfl
        · obtain ⟨c', us', rfl, h1', h2'⟩ := rep_tup rb
          exact .inr (.inr (.inl ⟨c, c', us, us', rfl, rfl, h1, h1', seqE_D ih h2 h2' pl pl'⟩))
        · obtain ⟨c', us', rfl, h1', h2'⟩ := rep_lst rb
          exact .inr (.inr (.inr (.inr (.inl ⟨c, c', us, us', rfl, rfl, h1, h1', rfl⟩))))
      · obtain ⟨c, us, rfl, h1, h2⟩ := rep_lst ra
        rcases hd' with rfl | rfl
        · obtain ⟨c', us', rfl, h1', h2'⟩ := rep_tup rb
          exact .inr (.inr (.inr (.inl ⟨c, c', us, us', rfl, rfl, h1, h1', rfl⟩)))
        · obtain ⟨c', us', rfl, h1', h2'⟩ := rep_lst rb
          exact .inr (.inl ⟨c, c', us, us', rfl, rfl, h1, h1', .inr (seqE_D ih h2 h2' pl pl')⟩)
theorem eqW_D : ∀ (n : Nat) {v u : V} {a b : D}, Rep K W v a → Rep K W u b → plD n a = true → plD n b = true → EqW K W.H n v u (eqD a b)
  | 0, v, u, a, b, ra, rb, pa, pb => by
    rcases flat_pl pa with fa | ⟨l, m, e, _⟩
    · rcases flat_pl pb with fb | ⟨l, m, e, _⟩
      · rw [eqD_flat fa]; exact eqF_ref ra rb fa fb
      · cases e
    · cases e
  | n + 1, v, u, a, b, ra, rb, pa, pb => by
    rcases topE_D (eqW_D n) ra rb pa pb with h | h
    · exact .inl h
    · exact .inr (.inr h)
/-- a value as a tree, to be read -/
def rdD (x : DV) (C : Cs) : Option D := match x with | .of d => some d | x => (rdL x C).map .lst
def dEqD (neg : Bool) : DR2 := fun x y C Q => match rdD x C, rdD y C with
  | some a, some b => (plD 40 a = true ∧ plD 40 b = true) ∧ Q (.of (.bl (cond neg (!eqD a b) (eqD a b)))) C
  | _, _ => False
/-- .. a cell as if it were a tree -/
theorem rdD_ok {v : V} {x : DV} {d : D} (m : Mem K W C) (r : RepV K W v x) (h : rdD x C = some d) : Rep K { W with ws := [] } v d := by
  have key : ∀ l, rdL x C = some l → Rep K { W with ws := [] } v (.lst l) := fun l hl => by
    obtain ⟨a, us, rfl, h1, h2⟩ := rdL_ok m r hl
    exact .lst a us l h1 (by simp) (Reps.mono (W := W) (W' := { W with ws := [] }) (fun b o h n => ⟨h, by simp⟩) h2)
  unfold rdD at h
  split at h
  · cases h
    exact Rep.mono (W := W) (W' := { W with ws := [] }) (fun b o h n => ⟨h, by simp⟩) r
  · cases e : rdL x C with
    | none => rw [e] at h; cases h
    | some l => rw [e] at h; cases h; exact key l e
theorem refR_eqD {neg : Bool} : RefR K (rEqW K neg) (dEqD neg) := fun W S C σ st v u x y QD Q rx ry q k => by
  unfold dEqD at q
  split at q
  · rename_i a b ha hb
    obtain ⟨⟨p1, p2⟩, q⟩ := q
    have h1 := rdD_ok st.m rx ha
    have h2 := rdD_ok st.m ry hb
    exact ⟨39, _, by decide, topE_D (W := { W with ws := [] }) (eqW_D 39) h1 h2 p1 p2, k.here st (.bl _) (by cases neg <;> exact q)⟩
  · exact q.elim
variable {X : Cx}
theorem oq_eqW (hK : X.K = K) (hu : X.A.units + 64 < cLine) : QOp K X (compareOp .Eq) (rEqW K false) (dEqD false) := ⟨op_eqWG hK hu, refR_eqD⟩
theorem oq_neW (hK : X.K = K) (hu : X.A.units + 64 < cLine) : QOp K X (compareOp .NotEq) (rEqW K true) (dEqD true) := ⟨op_neWG hK hu, refR_eqD⟩
/-! isinstance -/
def kindD (x : DV) : Option String := match x with
  | .of .non => some "NoneType" | .of (.bl _) => some "bool" | .of (.int _) => some "int" | .of (.str _) => some "str" | .of (.tup _) => some "tuple" | .of (.lst _) => some "list" | .bor _ => some "list" | .scr _ => some "list"
  | _ => none
end
/-! == of what is coded one to one -/
theorem eqDs_map {α : Type} [DecidableEq α] {f : α → D} (hf : ∀ a b, eqD (f a) (f b) = decide (a = b)) : ∀ (l m : List α), eqDs (l.map f) (m.map f) = decide (l = m)
  | [], [] => rfl
  | [], b :: m => rfl
  | a :: l, [] => rfl
  | a :: l, b :: m => by
    show (eqD (f a) (f b) && eqDs (l.map f) (m.map f)) = _
    rw [hf, eqDs_map hf l m, ← Bool.decide_and, decide_eq_decide, List.cons.injEq]
theorem eqD_str (a b : List Nat) : eqD (.str a) (.str b) = decide (a = b) := by
  show (a == b) = _
  by_cases h : a = b <;> simp [h]
theorem eqD_int (a b : Int) : eqD (.int a) (.int b) = decide (a = b) := by
  show (a == b) = _
  by_cases h : a = b <;> simp [h]
theorem plDs_map {α : Type} {f : α → D} {n : Nat} (hf : ∀ a, plD n (f a) = true) : ∀ (l : List α), plDs n (l.map f) = true
  | [] => rfl
  | a :: l => by
    show (plD n (f a) && plDs n (l.map f)) = true
    rw [hf, plDs_map hf l]; rfl
theorem plD_str (n : Nat) (l : List Nat) : plD n (.str l) = true := by cases n <;> rfl
theorem plD_int (n : Nat) (i : Int) : plD n (.int i) = true := by cases n <;> rfl
theorem plD_tup {n : Nat} {l : List D} (h : plDs n l = true) : plD (n + 1) (.tup l) = true := h
theorem plD_lst {n : Nat} {l : List D} (h : plDs n l = true) : plD (n + 1) (.lst l) = true := h
end Z

set_option Elab.async false
set_option linter.all false
set_option maxRecDepth 100000
set_option maxHeartbeats 4000000
/-! tokens: plain functions over lists of codes -/
namespace Z
open PySem PySem.Spec PyProof.Rows L2
/-! ### signs -/
def LL : List Nat := ("abcdefghijklmnopqrstuvwxyzABCDEFGHIJKLMNOPQRSTUVWXYZ" : Str).cps.toList
def FF : List Nat := ("0123456789" : Str).cps.toList
def isL (c : Nat) : Bool := decide (c ∈ LL)
def isF (c : Nat) : Bool := decide (c ∈ FF)
def isLF (c : Nat) : Bool := isL c || isF c
theorem LF_mem (c : Nat) : isLF c = decide (c ∈ ("abcdefghijklmnopqrstuvwxyzABCDEFGHIJKLMNOPQRSTUVWXYZ0123456789" : Str).cps.toList) := by
  have e : ("abcdefghijklmnopqrstuvwxyzABCDEFGHIJKLMNOPQRSTUVWXYZ0123456789" : Str).cps.toList = LL ++ FF := by decide +kernel
  rw [e]
  unfold isLF isL isF
  simp only [List.mem_append, Bool.decide_or]
/-- how many letters and figures stand ahead -/
def wE (l : List Nat) : Nat := (l.takeWhile isLF).length
theorem wE_le (l : List Nat) : wE l ≤ l.length := by
  unfold wE
  exact List.IsPrefix.length_le (List.takeWhile_prefix _)
theorem wE_pos {c : Nat} {r : List Nat} (h : isLF c = true) : wE (c :: r) = wE r + 1 := by
  unfold wE
  rw [List.takeWhile_cons_of_pos h, List.length_cons]
theorem wE_neg {c : Nat} {r : List Nat} (h : ¬ isLF c = true) : wE (c :: r) = 0 := by
  unfold wE
  rw [List.takeWhile_cons_of_neg h]
  rfl
theorem wE_all {l : List Nat} : wE l = l.length ↔ l.all isLF = true := by
  induction l with
  | nil => simp [wE]
  | cons c r ih =>
    by_cases h : isLF c = true
    · rw [wE_pos h, List.length_cons, List.all_cons, h, Bool.true_and, ← ih]; omega
    · rw [wE_neg h, List.length_cons, List.all_cons, Bool.not_eq_true _ |>.mp h, Bool.false_and]
      constructor
      · intro e; omega
      · intro e; cases e
def prs : List (List Nat) := [[61, 61], [33, 61], [60, 61], [62, 61], [38, 38], [124, 124], [45, 62]]
/-- the place of the first quote -/
def qAt : List Nat → Option Nat
  | [] => none
  | c :: r => if c = 34 then some 0 else (qAt r).map (· + 1)
theorem qAt_none : ∀ {l : List Nat}, (∀ v, v < l.length → l.getD v 0 ≠ 34) → qAt l = none
  | [], _ => rfl
  | c :: r, h => by
    have h0 : c ≠ 34 := h 0 (by simp)
    unfold qAt
    rw [if_neg h0, qAt_none (l := r) fun v hv => by
      have := h (v + 1) (by simpa using hv)
      simpa using this]
    rfl
theorem qAt_some : ∀ {l : List Nat} {k : Nat}, k < l.length → l.getD k 0 = 34 → (∀ v, v < k → l.getD v 0 ≠ 34) → qAt l = some k
  | [], k, h, _, _ => by simp at h
  | c :: r, 0, _, e, _ => by
    have e' : c = 34 := by simpa using e
    unfold qAt
    rw [if_pos e']
  | c :: r, k + 1, h, e, n => by
    have h0 : c ≠ 34 := by simpa using n 0 (by omega)
    unfold qAt
    rw [if_neg h0, qAt_some (l := r) (k := k) (by simpa using h) (by simpa using e) fun v hv => by simpa using n (v + 1) (by omega)]
    rfl
theorem qAt_lt : ∀ {l : List Nat} {k : Nat}, qAt l = some k → k < l.length
  | [], k, h => by cases h
  | c :: r, k, h => by
    unfold qAt at h
    by_cases e : c = 34
    · rw [if_pos e] at h; cases h; simp
    · rw [if_neg e] at h
      cases q : qAt r with
      | none => rw [q] at h; cases h
      | some j =>
        rw [q] at h
        have : j + 1 = k := by simpa using h
        have := qAt_lt q
        simp only [List.length_cons]; omega
/-- how long the token is that begins the list -/
def tokLen : List Nat → Option Nat
  | [] => some 0
  | c :: r => if c = 34 then (qAt r).map (· + 2) else if isLF c = true then some (wE r + 1) else if (c :: r).take 2 ∈ prs then some 2 else some 1
theorem tokLen_cons (c : Nat) (r : List Nat) : tokLen (c :: r) = if c = 34 then (qAt r).map (· + 2) else if isLF c = true then some (wE r + 1) else if (c :: r).take 2 ∈ prs then some 2 else some 1 := rfl
def isTok (l : List Nat) : Bool := match l with
  | [] => false
  | c :: r => decide (c ≠ 32) && (decide (10 ∉ c :: r) && decide (tokLen (c :: r) = some (r.length + 1)))
/-- what the law's own look tells -/
def due (l : List Nat) : Bool := match l with
  | [] => false
  | c :: r => decide (10 ∉ c :: r) && (if isLF c = true then (c :: r).all isLF else if c = 34 then decide (r.length + 1 > 1) && (decide ((c :: r).count 34 = 2) && decide ((c :: r).getLastD 0 = 34)) else if r.length = 0 then decide (c ≠ 32) else decide (c :: r ∈ prs))
theorem prs_len {l : List Nat} (h : l ∈ prs) : l.length = 2 := by
  revert l; decide
theorem prs_blank {c : Nat} {r : List Nat} (h : c :: r ∈ prs) : c ≠ 32 := by
  intro e; subst e
  simp [prs] at h
theorem qAt_end : ∀ r : List Nat, qAt r = some (r.length - 1) ∧ r ≠ [] ↔ r.count 34 = 1 ∧ r.getLastD 0 = 34
  | [] => by simp
  | [c] => by
    by_cases e : c = 34
    · subst e; simp [qAt]
    · simp [qAt, e]
  | c :: d :: r => by
    have ih := qAt_end (d :: r)
    by_cases e : c = 34
    · subst e
      have h1 : qAt (34 :: d :: r) = some 0 := by unfold qAt; rw [if_pos rfl]
      rw [h1]
      simp only [List.length_cons, Option.some.injEq, ne_eq, reduceCtorEq, not_false_eq_true, and_true, List.count_cons_self]
      constructor
      · intro h; omega
      · rintro ⟨h2, h3⟩
        have h4 : List.count 34 (d :: r) = 0 := by omega
        have h5 : 34 ∉ d :: r := List.count_eq_zero.mp h4
        have h6 : (d :: r).getLastD 0 ∈ d :: r := by
          rw [List.getLastD_eq_getLast?, List.getLast?_eq_some_getLast (by simp)]
          exact List.getLast_mem _
        have h7 : (34 :: d :: r).getLastD 0 = (d :: r).getLastD 0 := by simp [List.getLastD]
        rw [← h7, h3] at h6
        exact absurd h6 h5
    · have h1 : qAt (c :: d :: r) = (qAt (d :: r)).map (· + 1) := by conv => lhs; unfold qAt; rw [if_neg e]
      have h7 : (c :: d :: r).getLastD 0 = (d :: r).getLastD 0 := by simp [List.getLastD]
      rw [h1, h7, List.count_cons_of_ne (Ne.symm (Ne.symm e)), ← ih]
      constructor
      · rintro ⟨h2, _⟩
        refine ⟨?_, by simp⟩
        cases q : qAt (d :: r) with
        | none => rw [q] at h2; cases h2
        | some k =>
          rw [q] at h2
          simp only [Option.map_some, Option.some.injEq, List.length_cons] at h2 ⊢
          omega
      · rintro ⟨h2, _⟩
        rw [h2]
        refine ⟨?_, by simp⟩
        simp only [Option.map_some, Option.some.injEq, List.length_cons]
        omega
theorem due_tok (l : List Nat) : isTok l = due l := by
  cases l with
  | nil => rfl
  | cons c r =>
    show (decide (c ≠ 32) && (decide (10 ∉ c :: r) && decide (tokLen (c :: r) = some (r.length + 1)))) = (decide (10 ∉ c :: r) && _)
    by_cases h10 : 10 ∉ c :: r
    · rw [decide_eq_true h10, Bool.true_and, Bool.true_and]
      by_cases hl : isLF c = true
      · have h32 : c ≠ 32 := by rintro rfl; revert hl; decide +kernel
        have h34 : c ≠ 34 := by rintro rfl; revert hl; decide +kernel
        rw [if_pos hl, decide_eq_true h32, Bool.true_and]
        have e : tokLen (c :: r) = some (wE r + 1) := by rw [tokLen_cons, if_neg h34, if_pos hl]
        rw [e, List.all_cons, hl, Bool.true_and]
        have q := wE_all (l := r)
        cases a : r.all isLF with
        | true => rw [q.mpr a]; simp
        | false =>
          refine decide_eq_false fun z => ?_
          have z2 : wE r = r.length := by simpa using z
          rw [q.mp z2] at a; cases a
      · rw [if_neg hl]
        by_cases h34 : c = 34
        · subst h34
          rw [if_pos rfl, decide_eq_true (by decide), Bool.true_and]
          have e : tokLen (34 :: r) = (qAt r).map (· + 2) := by rw [tokLen_cons, if_pos rfl]
          rw [e]
          have q := qAt_end r
          cases r with
          | nil => rfl
          | cons d s =>
            have h7 : (34 :: d :: s).getLastD 0 = (d :: s).getLastD 0 := by simp [List.getLastD]
            rw [h7, List.count_cons_self]
            have hp : decide ((d :: s).length + 1 > 1) = true := decide_eq_true (by simp)
            rw [hp, Bool.true_and, ← Bool.decide_and, decide_eq_decide]
            have q2 : (qAt (d :: s)).map (· + 2) = some ((d :: s).length + 1) ↔ qAt (d :: s) = some ((d :: s).length - 1) ∧ d :: s ≠ [] := by
              cases z : qAt (d :: s) with
              | none => simp
              | some k => simp only [Option.map_some, Option.some.injEq, List.length_cons, ne_eq, reduceCtorEq, not_false_eq_true, and_true]; omega
            rw [q2, q]
            constructor
            · rintro ⟨a, b⟩; exact ⟨by omega, b⟩
            · rintro ⟨a, b⟩; exact ⟨by omega, b⟩
        · rw [if_neg h34]
          have e : tokLen (c :: r) = if (c :: r).take 2 ∈ prs then some 2 else some 1 := by rw [tokLen_cons, if_neg h34, if_neg hl]
          rw [e]
          by_cases hp : (c :: r).take 2 ∈ prs
          · rw [if_pos hp]
            have hln := prs_len hp
            have hb : c ≠ 32 := by
              rw [List.take_succ_cons] at hp
              exact prs_blank hp
            rw [decide_eq_true hb, Bool.true_and]
            cases r with
            | nil => simp at hln
            | cons d s =>
              rw [if_neg (by simp)]
              cases s with
              | nil =>
                have hp' : [c, d] ∈ prs := hp
                rw [decide_eq_true hp']; rfl
              | cons x y =>
                have n1 : ¬ (c :: d :: x :: y) ∈ prs := fun z => by
                  have := prs_len z
                  simp at this
                rw [decide_eq_false n1]
                refine decide_eq_false fun z => ?_
                simp at z
          · rw [if_neg hp]
            cases r with
            | nil => simp
            | cons d s =>
              rw [if_neg (by simp)]
              have n1 : ¬ (c :: d :: s) ∈ prs := fun z => by
                have h2 := prs_len z
                have h3 : s = [] := by simpa using h2
                subst h3
                exact hp z
              rw [decide_eq_false n1]
              simp
    · rw [decide_eq_false h10, Bool.false_and, Bool.false_and, Bool.and_false]
end Z

set_option Elab.async false
set_option linter.all false
set_option maxRecDepth 100000
set_option maxHeartbeats 4000000
namespace Z
open PySem PySem.Spec PyProof.Rows L2
/-! ### a row read into tokens with columns -/
abbrev Tk := List Nat × Nat
def cat (acc : List Tk) : Except Nat (List Tk) → Except Nat (List Tk)
  | .ok t => .ok (acc ++ t)
  | .error e => .error e
theorem cat_cat (a b : List Tk) (r : Except Nat (List Tk)) : cat a (cat b r) = cat (a ++ b) r := by
  cases r <;> simp [cat]
theorem cat_nil (r : Except Nat (List Tk)) : cat [] r = r := by cases r <;> rfl
def lex : Nat → Nat → List Nat → Except Nat (List Tk)
  | 0, _, _ => .ok []
  | _ + 1, _, [] => .ok []
  | f + 1, a, c :: r => if c = 32 then lex f (a + 1) r else
    match tokLen (c :: r) with
    | none => .error a
    | some n => cat [((c :: r).take n, a)] (lex f (a + n) ((c :: r).drop n))
def lexOf (a : Nat) (l : List Nat) : Except Nat (List Tk) := lex l.length a l
theorem tokLen_le {c : Nat} {r : List Nat} {n : Nat} (h : tokLen (c :: r) = some n) : 1 ≤ n ∧ n ≤ r.length + 1 := by
  rw [tokLen_cons] at h
  split at h
  · cases q : qAt r with
    | none => rw [q] at h; cases h
    | some k =>
      rw [q] at h
      cases h
      have := qAt_lt q
      show 1 ≤ k + 2 ∧ k + 2 ≤ r.length + 1
      omega
  · split at h
    · cases h
      have := wE_le r
      omega
    · split at h
      · rename_i p
        cases h
        have := prs_len p
        rw [List.length_take, List.length_cons] at this
        omega
      · cases h; omega
theorem lex_fuel : ∀ (f : Nat) (a : Nat) (l : List Nat), l.length ≤ f → lex f a l = lexOf a l := by
  intro f
  induction f using Nat.strongRecOn with
  | ind f ih =>
    intro a l h
    cases l with
    | nil => cases f <;> rfl
    | cons c r =>
      cases f with
      | zero => simp at h
      | succ f =>
        have hr : r.length ≤ f := by simpa using h
        show lex (f + 1) a (c :: r) = lex (r.length + 1) a (c :: r)
        unfold lex
        split
        · rw [ih f (by omega) (a + 1) r hr]; rfl
        · cases q : tokLen (c :: r) with
          | none => rfl
          | some n =>
            have hb := tokLen_le q
            have hd : ((c :: r).drop n).length ≤ r.length := by rw [List.length_drop, List.length_cons]; omega
            dsimp only
            rw [ih f (by omega) _ _ (by omega)]
            by_cases e : r.length = f
            · subst e; rw [ih _ (by omega) _ _ hd]
            · rw [ih r.length (by omega) _ _ hd]
theorem lexOf_nil (a : Nat) : lexOf a [] = .ok [] := rfl
theorem lexOf_bl (a : Nat) (r : List Nat) : lexOf a (32 :: r) = lexOf (a + 1) r := by
  show lex (r.length + 1) a (32 :: r) = _
  unfold lex
  rw [if_pos rfl]; rfl
theorem lexOf_none {a c : Nat} {r : List Nat} (h : c ≠ 32) (q : tokLen (c :: r) = none) : lexOf a (c :: r) = .error a := by
  show lex (r.length + 1) a (c :: r) = _
  unfold lex
  rw [if_neg h, q]
theorem lexOf_some {a c n : Nat} {r : List Nat} (h : c ≠ 32) (q : tokLen (c :: r) = some n) : lexOf a (c :: r) = cat [((c :: r).take n, a)] (lexOf (a + n) ((c :: r).drop n)) := by
  show lex (r.length + 1) a (c :: r) = _
  unfold lex
  rw [if_neg h, q]
  dsimp only
  have hb := tokLen_le q
  rw [lex_fuel _ _ _ (by rw [List.length_drop, List.length_cons]; omega)]
/-! ### closed rows -/
theorem qAt_cnt : ∀ {r : List Nat} {k : Nat}, qAt r = some k → r.count 34 = 1 + (r.drop (k + 1)).count 34
  | [], k, h => by cases h
  | c :: r, k, h => by
    unfold qAt at h
    split at h
    · rename_i e
      cases h
      subst e
      simp; omega
    · rename_i e
      cases q : qAt r with
      | none => rw [q] at h; cases h
      | some j =>
        rw [q] at h
        cases h
        have ih := qAt_cnt q
        rw [List.count_cons_of_ne (by exact e), ih]
        rfl
theorem qAt_no : ∀ {r : List Nat}, qAt r = none → r.count 34 = 0
  | [], _ => rfl
  | c :: r, h => by
    unfold qAt at h
    split at h
    · cases h
    · rename_i e
      cases q : qAt r with
      | none => rw [List.count_cons_of_ne (by exact e)]; exact qAt_no q
      | some j => rw [q] at h; cases h
theorem isLF_ne {c : Nat} (h : isLF c = true) : c ≠ 34 := by
  intro e; subst e; revert h; decide +kernel
theorem wE_cnt : ∀ (r : List Nat), (r.drop (wE r)).count 34 = r.count 34
  | [] => rfl
  | c :: r => by
    by_cases h : isLF c = true
    · rw [wE_pos h, List.count_cons_of_ne (isLF_ne h)]
      exact wE_cnt r
    · rw [wE_neg h]; rfl
theorem prs_cnt {l : List Nat} (h : l ∈ prs) : l.count 34 = 0 := by
  unfold prs at h
  simp only [List.mem_cons, List.not_mem_nil, or_false] at h
  rcases h with rfl | rfl | rfl | rfl | rfl | rfl | rfl <;> decide
theorem tok_cnt {c n : Nat} {r : List Nat} (q : tokLen (c :: r) = some n) : ((c :: r).drop n).count 34 % 2 = (c :: r).count 34 % 2 := by
  rw [tokLen_cons] at q
  split at q
  · rename_i e
    cases z : qAt r with
    | none => rw [z] at q; cases q
    | some k =>
      rw [z] at q
      cases q
      subst e
      rw [List.count_cons_self, qAt_cnt z]
      show (r.drop (k + 1)).count 34 % 2 = _
      omega
  · rename_i e
    split at q
    · cases q
      show (r.drop (wE r)).count 34 % 2 = _
      rw [wE_cnt, List.count_cons_of_ne e]
    · split at q
      · rename_i p
        cases q
        have h0 := prs_cnt p
        have h1 : (c :: r).count 34 = ((c :: r).take 2).count 34 + ((c :: r).drop 2).count 34 := by
          rw [← List.count_append, List.take_append_drop]
        omega
      · cases q
        rw [List.count_cons_of_ne e]; rfl
theorem lex_closed : ∀ (m : Nat) (a : Nat) (l : List Nat), l.length ≤ m → l.count 34 % 2 = 0 → ∃ t, lexOf a l = .ok t := by
  intro m
  induction m with
  | zero =>
    intro a l h _
    have e : l = [] := List.eq_nil_of_length_eq_zero (by omega)
    subst e
    exact ⟨[], rfl⟩
  | succ m ih =>
    intro a l h hc
    cases l with
    | nil => exact ⟨[], rfl⟩
    | cons c r =>
      have hr : r.length ≤ m := by simpa using h
      by_cases e : c = 32
      · subst e
        rw [lexOf_bl]
        exact ih _ _ hr (by rwa [List.count_cons_of_ne (by decide)] at hc)
      · cases q : tokLen (c :: r) with
        | none =>
          exfalso
          rw [tokLen_cons] at q
          split at q
          · rename_i e2
            cases z : qAt r with
            | none =>
              have := qAt_no z
              subst e2
              rw [List.count_cons_self] at hc
              omega
            | some k => rw [z] at q; cases q
          · split at q
            · cases q
            · split at q <;> cases q
        | some n =>
          have hb := tokLen_le q
          rw [lexOf_some e q]
          obtain ⟨t, ht⟩ := ih (a + n) ((c :: r).drop n) (by rw [List.length_drop, List.length_cons]; omega) (by rw [tok_cnt q]; exact hc)
          exact ⟨_, by rw [ht]; rfl⟩
/-- a row with as many quotes as close one another is read -/
theorem lex_ok {l : List Nat} (h : l.count 34 % 2 = 0) (a : Nat) : ∃ t, lexOf a l = .ok t := lex_closed _ _ _ (Nat.le_refl _) h
end Z
namespace Z
open PySem PySem.Spec PyProof.Rows L2
theorem cat_ok {acc t : List Tk} {r : Except Nat (List Tk)} (h : cat acc r = .ok t) : ∃ u, r = .ok u ∧ t = acc ++ u := by
  cases r with
  | error e => cases h
  | ok u => exact ⟨u, rfl, (Except.ok.inj h).symm⟩
theorem lex_all (P : Tk → Prop) (h1 : ∀ a c r n, c ≠ 32 → tokLen (c :: r) = some n → P ((c :: r).take n, a)) : ∀ (m : Nat) (a : Nat) (l : List Nat) (t : List Tk), l.length ≤ m → lexOf a l = .ok t → ∀ x ∈ t, P x := by
  intro m
  induction m with
  | zero =>
    intro a l t h e
    have q : l = [] := List.eq_nil_of_length_eq_zero (by omega)
    subst q
    cases e
    simp
  | succ m ih =>
    intro a l t h e
    cases l with
    | nil => cases e; simp
    | cons c r =>
      have hr : r.length ≤ m := by simpa using h
      by_cases z : c = 32
      · subst z
        rw [lexOf_bl] at e
        exact ih _ _ _ hr e
      · cases q : tokLen (c :: r) with
        | none => rw [lexOf_none z q] at e; cases e
        | some n =>
          rw [lexOf_some z q] at e
          obtain ⟨u, e1, e2⟩ := cat_ok e
          subst e2
          have hb := tokLen_le q
          intro x hx
          rcases List.mem_append.mp hx with h2 | h2
          · rw [List.mem_singleton] at h2
            subst h2
            exact h1 a c r n z q
          · exact ih _ _ _ (by rw [List.length_drop, List.length_cons]; omega) e1 x h2
theorem lex_pos {a : Nat} {l : List Nat} {t : List Tk} (h : lexOf a l = .ok t) : ∀ x ∈ t, x.1 ≠ [] :=
  lex_all (fun x => x.1 ≠ []) (fun a c r n _ q => by
    have hb := tokLen_le q
    intro e
    have := congrArg List.length e
    rw [List.length_take, List.length_cons, List.length_nil] at this
    omega) _ _ _ _ (Nat.le_refl _) h
end Z
namespace Z
open PySem PySem.Spec PyProof.Rows L2
theorem lex_bound : ∀ (m : Nat) (a : Nat) (l : List Nat) (t : List Tk), l.length ≤ m → lexOf a l = .ok t → t.length ≤ l.length ∧ ∀ x ∈ t, a ≤ x.2 ∧ x.2 + x.1.length ≤ a + l.length := by
  intro m
  induction m with
  | zero =>
    intro a l t h e
    have q : l = [] := List.eq_nil_of_length_eq_zero (by omega)
    subst q
    cases e
    simp
  | succ m ih =>
    intro a l t h e
    cases l with
    | nil => cases e; simp
    | cons c r =>
      have hr : r.length ≤ m := by simpa using h
      by_cases z : c = 32
      · subst z
        rw [lexOf_bl] at e
        obtain ⟨i1, i2⟩ := ih _ _ _ hr e
        refine ⟨by rw [List.length_cons]; omega, fun x hx => ?_⟩
        have := i2 x hx
        rw [List.length_cons]; omega
      · cases q : tokLen (c :: r) with
        | none => rw [lexOf_none z q] at e; cases e
        | some n =>
          rw [lexOf_some z q] at e
          obtain ⟨u, e1, e2⟩ := cat_ok e
          subst e2
          have hb := tokLen_le q
          obtain ⟨i1, i2⟩ := ih _ _ _ (by rw [List.length_drop, List.length_cons]; omega) e1
          rw [List.length_drop, List.length_cons] at i1
          refine ⟨by rw [List.length_append, List.length_cons]; rw [List.length_cons]; show 1 + u.length ≤ _; omega, fun x hx => ?_⟩
          rcases List.mem_append.mp hx with h2 | h2
          · rw [List.mem_singleton] at h2
            subst h2
            show a ≤ a ∧ a + ((c :: r).take n).length ≤ a + (r.length + 1)
            rw [List.length_take, List.length_cons]; omega
          · have := i2 x h2
            rw [List.length_drop, List.length_cons] at this
            rw [List.length_cons]; omega
theorem lex_len {a : Nat} {l : List Nat} {t : List Tk} (h : lexOf a l = .ok t) : t.length ≤ l.length ∧ ∀ x ∈ t, a ≤ x.2 ∧ x.2 + x.1.length ≤ a + l.length := lex_bound _ _ _ _ (Nat.le_refl _) h
end Z

set_option Elab.async false
set_option linter.all false
set_option maxRecDepth 100000
set_option maxHeartbeats 4000000
namespace Z
open PySem PySem.Spec PyProof.Rows L2
/-! ### texts: join, count, index -/
theorem join0S : ∀ ys : List Str, cl (Str.join ("" : Str) ys) = (ys.map cl).flatten
  | [] => by rw [show ([] : List Str).map cl = [] from rfl]; exact (by decide +kernel : cl (Str.join ("" : Str) []) = [])
  | [x] => by
    show cl x = _
    simp
  | x :: y :: r => by
    rw [PyProof.Rows.join_cons_cons, cl_append, cl_append, join0S (y :: r), nil_s]
    simp
theorem join0 (ys : List Str) : cl (Txt.join ("" : Str) ys) = (ys.map cl).flatten := by rw [eq_of_beq (PyProof.Rows.join_plain_closes _ _)]; exact join0S ys
theorem cnt_is (c : Nat) : ∀ l : List Nat, PyProof.Rows.cnt c l = (l.count c : Int)
  | [] => rfl
  | a :: r => by
    rw [PyProof.Rows.cnt_cons, cnt_is c r]
    by_cases h : a = c
    · subst h; rw [if_pos rfl, List.count_cons_self]; omega
    · rw [if_neg h, List.count_cons_of_ne h]; omega
theorem q34 : ("\"" : Str) = ⟨#[34]⟩ := by decide +kernel
theorem count34 (z : Str) : Txt.count z ("\"" : Str) = ((cl z).count 34 : Nat) := by
  rw [q34, PyProof.Rows.count_cnt, cnt_is]
theorem rep_len (n : Int) (l : List Nat) : (rep n l).length = n.toNat * l.length := by
  unfold rep
  rw [List.length_flatten, List.map_replicate, List.sum_replicate_nat]
theorem rep_count (c : Nat) (n : Int) (l : List Nat) : (rep n l).count c = n.toNat * l.count c := by
  unfold rep
  rw [List.count_flatten, List.map_replicate, List.sum_replicate_nat]
theorem getD_clx (z : Str) (v : Nat) : z.cps.getD v 0 = (cl z).getD v 0 := by
  rw [List.getD_eq_getElem?_getD, Array.getElem?_toList, Array.getD_eq_getD_getElem?]
theorem find_q0 (z : Str) : Txt.find3 z ("\"" : Str) 0 = match qAt (cl z) with | none => -1 | some k => ((k : Nat) : Int) := by
  have hcl := cl_len z
  rw [q34]
  have f0 : PySem.fromIndex z.length 0 = 0 := rfl
  rcases PySem.StrLaws.find3_spec z 34 0 with ⟨h1, h2⟩ | ⟨k, h1, h2, h3, h4, h5⟩
  · rw [h1, qAt_none (l := cl z) fun v hv => by
      rw [← getD_clx]
      exact h2 _ (by rw [f0]; omega) (by omega)]
  · rw [h1, qAt_some (l := cl z) (k := k) (by omega) (by rw [← getD_clx]; exact h4) fun v hv => by
      rw [← getD_clx]
      exact h5 _ (by rw [f0]; omega) (by omega)]
theorem index_q (z : Str) : Txt.index0 z ("\"" : Str) = qAt (cl z) := by
  have h := find_q0 z
  unfold Txt.find3 at h
  unfold Txt.index0
  rw [show PySem.fromIndex z.length 0 = 0 from rfl] at h
  cases e : PySem.Builtin.Str.occurrences z ("\"" : Str) 0 z.length 1 with
  | nil =>
    rw [e] at h
    cases q : qAt (cl z) with
    | none => rfl
    | some k =>
      rw [q] at h
      replace h : (-1 : Int) = ((k : Nat) : Int) := h
      omega
  | cons a r =>
    rw [e] at h
    cases q : qAt (cl z) with
    | none =>
      rw [q] at h
      replace h : ((a : Nat) : Int) = -1 := h
      omega
    | some k =>
      rw [q] at h
      replace h : ((a : Nat) : Int) = ((k : Nat) : Int) := h
      have : a = k := by omega
      subst this
      rfl
/-! ### a drawn state: what is written there and nowhere else -/
structure Mut (b : Addr) (M : Hp → Prop) : Prop where
  new : ∀ H D o, M H → b ≠ D → M (L2.upd H D o)
  lst : ∀ H, M H → ∃ xs, H b = some (.lst xs)
theorem Mut.stay {b : Addr} {M : Hp → Prop} (m : Mut b M) {H H' : Hp} (h : M H) (k : Keep [b] H H') : Stay H H' := by
  obtain ⟨xs, e⟩ := m.lst H h
  exact k.stay e
theorem Keep.made {S : List Addr} {H H1 : Hp} {D : Addr} {o : HO} (k : Keep S H H1) (h : H D = none) : Keep S H (L2.upd H1 D o) := fun c u e n => by
  rw [upd_ne (ne_of_none e h)]
  exact k c u e n
/-- a comprehension whose element draws -/
theorem lc_mut {J : It} {n : Nat} {Y : Nat → Hp → V → Hp → Prop} (w : Walk J n (fun _ => True) Y) {b : Addr} {M : Hp → Prop} (mu : Mut b M) {G : V → Hp → Prop} (hG : ∀ v H H', G v H → Stay H H' → G v H') {g : TG} {te : TE} {vs : List Nat} {σ : L2.St} {H1 : Hp} {D : Addr} {Qd : Hp → Prop}
    (hn : n ≤ 16777216) (hM : M H1) (hD : H1 D = none)
    (hs : ∀ i x H H' (R : V → Hp → Prop), i < n → M H → Keep [b] H1 H → Y i H x H' → (∀ v H4, G v H4 → M H4 → Keep [b] H H4 → R v H4) → g x (wipe σ vs) H' fun σ2 H2 => wipe σ2 vs = wipe σ vs ∧ te σ2 H2 R)
    (hd : ∀ us H, us.length = n → (∀ v ∈ us, G v H) → M H → Keep [b] H1 H → H D = some (.lst us) → Qd H) :
    ∃ W : Nat → Nat → Hp → Prop, (∃ m, W 0 m (L2.upd H1 D (.lst []))) ∧ ∀ i m H, W i m H →
      (J.stop i H ∧ Qd H) ∨ (J.go i H ∧ ∃ Nx : Hp → Prop, (∀ H', Nx H' → ∃ m', m' < m ∧ W (i + 1) m' H') ∧ ∀ x H', J.yld i H x H' → g x (wipe σ vs) H' fun σ2 H2 => wipe σ2 vs = wipe σ vs ∧ tYes σ2 H2 fun b H3 =>
        if b = true then te σ2 H3 fun y H4 => ∃ acc, H4 D = some (.lst acc) ∧ acc.length < sizeLine ∧ Nx (L2.upd H4 D (.lst (acc ++ [y]))) else Nx H3) := by
  have nb : b ≠ D := by
    obtain ⟨xs, e⟩ := mu.lst H1 hM
    exact ne_of_none e hD
  refine lc_it w (fun i H => M H ∧ Keep [b] H1 H ∧ ∃ us, H D = some (.lst us) ∧ us.length = i ∧ ∀ v ∈ us, G v H) ⟨mu.new _ _ _ hM nb, Keep.refl.new hD, [], upd_same, rfl, by simp⟩ (fun _ _ _ _ => True.intro) ?_ ?_
  · rintro i x H H' hi ⟨m, k, us, e, hl, hu⟩ y
    refine hs i x H H' _ hi m k y fun v H4 gv m4 k4 => ?_
    have e4 := k4.one e nb.symm
    have st := mu.stay m k4
    have st2 : Stay H4 (L2.upd H4 D (.lst (us ++ [v]))) := Stay.refl.updL e4
    refine ⟨us, e4, by rw [ss]; omega, mu.new _ _ _ m4 nb, (k.trans k4).made hD, us ++ [v], upd_same, by simp [hl], fun u hu' => ?_⟩
    rcases List.mem_append.mp hu' with h | h
    · exact hG u _ _ (hu u h) (st.trans st2)
    · rw [List.mem_singleton] at h
      subst h
      exact hG u _ _ gv st2
  · rintro H ⟨m, k, us, e, hl, hu⟩
    exact hd us H hl hu m k e
/-- texts of at most n signs -/
def TxG (n : Nat) : V → Hp → Prop := fun v _ => ∃ z : Str, v = .str z ∧ z.length ≤ n
theorem TxG.all {n : Nat} {H : Hp} : ∀ {us : List V}, (∀ v ∈ us, TxG n v H) → ∃ ws : List Str, us = ws.map V.str ∧ ∀ w ∈ ws, w.length ≤ n
  | [], _ => ⟨[], rfl, by simp⟩
  | u :: us, h => by
    obtain ⟨z, rfl, hz⟩ := h u (by simp)
    obtain ⟨ws, rfl, hw⟩ := TxG.all (us := us) fun v hv => h v (by simp [hv])
    exact ⟨z :: ws, rfl, fun w hw' => (List.mem_cons.mp hw').elim (fun e => e ▸ hz) (hw w)⟩
theorem sum_le {n : Nat} : ∀ (ws : List Str), (∀ w ∈ ws, w.length ≤ n) → (ws.map (·.length)).sum ≤ n * ws.length
  | [], _ => by simp
  | w :: ws, h => by
    have a := h w (by simp)
    have b := sum_le ws fun v hv => h v (by simp [hv])
    rw [List.map_cons, List.sum_cons, List.length_cons, Nat.mul_add, Nat.mul_one]
    omega
theorem join0_len (ws : List Str) : (Txt.join ("" : Str) ws).length = (ws.map (·.length)).sum := by
  rw [← cl_len, join0, List.length_flatten, List.map_map]
  exact congrArg List.sum (List.map_congr_left fun w _ => cl_len w)
end Z
namespace Z
open PySem PySem.Spec PyProof.Rows L2
/-- one sign out of a text -/
def ChG (l : List Nat) : V → Hp → Prop := fun v _ => ∃ c, c ∈ l ∧ v = .str ⟨#[c]⟩
theorem ix_m {z : Str} {r : Int} (h0 : 0 ≤ r) (h1 : r < z.length) : ∃ c, c ∈ cl z ∧ atI z.cps.toList r = some c := by
  have h : r.toNat < (cl z).length := by rw [cl_len]; omega
  exact ⟨(cl z)[r.toNat], List.getElem_mem h, at_of2 h0 (List.getElem?_eq_getElem h)⟩
theorem ChG.all {l : List Nat} {H : Hp} : ∀ {us : List V}, (∀ v ∈ us, ChG l v H) → ∃ cs : List Nat, us = (cs.map fun c => (⟨#[c]⟩ : Str)).map V.str ∧ ∀ c ∈ cs, c ∈ l
  | [], _ => ⟨[], rfl, by simp⟩
  | u :: us, h => by
    obtain ⟨c, hc, rfl⟩ := h u (by simp)
    obtain ⟨cs, rfl, hw⟩ := ChG.all (us := us) fun v hv => h v (by simp [hv])
    exact ⟨c :: cs, rfl, fun w hw' => (List.mem_cons.mp hw').elim (fun e => e ▸ hc) (hw w)⟩
theorem join_cs (cs : List Nat) : cl (Txt.join ("" : Str) (cs.map fun c => (⟨#[c]⟩ : Str))) = cs := by
  rw [join0, List.map_map]
  induction cs with
  | nil => rfl
  | cons c cs ih =>
    rw [List.map_cons, List.flatten_cons, ih]; rfl
theorem sum_cs (cs : List Nat) : ((cs.map fun c => (⟨#[c]⟩ : Str)).map (·.length)).sum = cs.length := by
  induction cs with
  | nil => rfl
  | cons c cs ih => rw [List.map_cons, List.map_cons, List.sum_cons, ih, List.length_cons]; show 1 + _ = _; omega
theorem lenS (l : List Nat) : Str.length ⟨l.toArray⟩ = l.length := List.size_toArray
theorem clS (l : List Nat) : cl ⟨l.toArray⟩ = l := rfl
end Z
namespace Z
open PySem PySem.Spec PyProof.Rows L2
theorem joinS (sep : Str) : ∀ ys : List Str, Txt.join sep ys = Str.join sep ys := fun ys => eq_of_beq (PyProof.Rows.join_plain_closes _ _)
end Z

set_option Elab.async false
set_option linter.all false
set_option maxRecDepth 100000
set_option maxHeartbeats 4000000
namespace Z
open PySem PySem.Spec PyProof.Rows L2
/-! ### tokens beside one another; a row written -/
def isTk (x : List Nat) : Prop := ∃ c r, x = c :: r ∧ c ≠ 32 ∧ tokLen (c :: r) = some (r.length + 1)
theorem isTk.ne {x : List Nat} (h : isTk x) : x ≠ [] := by
  obtain ⟨c, r, e, _⟩ := h
  rw [e]; simp
theorem qAt_app : ∀ {r d : List Nat} {k : Nat}, qAt r = some k → qAt (r ++ d) = some k
  | [], d, k, h => by cases h
  | c :: r, d, k, h => by
    show qAt (c :: (r ++ d)) = some k
    unfold qAt at h ⊢
    split at h
    · rename_i e; rw [if_pos e]; exact h
    · rename_i e
      rw [if_neg e]
      cases q : qAt r with
      | none => rw [q] at h; cases h
      | some j => rw [q] at h; rw [qAt_app q]; exact h
theorem wE_app : ∀ {r d : List Nat}, wE r = r.length → wE (r ++ d) = r.length + wE d
  | [], d, _ => by simp
  | c :: r, d, h => by
    by_cases q : isLF c = true
    · rw [wE_pos q, List.length_cons] at h
      show wE (c :: (r ++ d)) = _
      rw [wE_pos q, wE_app (by omega), List.length_cons]; omega
    · rw [wE_neg q, List.length_cons] at h; omega
theorem prs_two {l : List Nat} (h : l ∈ prs) : ∃ a b, l = [a, b] := by
  have := prs_len h
  match l, this with
  | [a, b], _ => exact ⟨a, b, rfl⟩
/-- the four kinds -/
inductive Kind : Nat → List Nat → Prop
  | txt {r : List Nat} (h : qAt r = some (r.length - 1)) (n : r ≠ []) : Kind 34 r
  | word {c : Nat} {r : List Nat} (h : isLF c = true) (w : wE r = r.length) : Kind c r
  | pair {c d : Nat} (h : [c, d] ∈ prs) (n : c ≠ 34) (l : isLF c = false) : Kind c [d]
  | sign {c : Nat} (n : c ≠ 34) (l : isLF c = false) : Kind c []
theorem kind_of {c : Nat} {r : List Nat} (h : tokLen (c :: r) = some (r.length + 1)) : Kind c r := by
  rw [tokLen_cons] at h
  split at h
  · rename_i e
    subst e
    cases q : qAt r with
    | none => rw [q] at h; cases h
    | some k =>
      rw [q] at h
      have e : k + 2 = r.length + 1 := Option.some.inj h
      have hn : r ≠ [] := by intro z; subst z; cases q
      exact .txt (by rw [q]; congr 1; omega) hn
  · rename_i e
    split at h
    · rename_i e2
      have e3 : wE r + 1 = r.length + 1 := Option.some.inj h
      exact .word e2 (by omega)
    · rename_i e2
      split at h
      · rename_i p
        have e3 : 2 = r.length + 1 := Option.some.inj h
        match r, e3 with
        | [d], _ => exact .pair p e (by simpa using e2)
      · have e3 : 1 = r.length + 1 := Option.some.inj h
        have : r = [] := List.eq_nil_of_length_eq_zero (by omega)
        subst this
        exact .sign e (by simpa using e2)
/-- a token with more behind it -/
theorem kind_app {c : Nat} {r d : List Nat} (k : Kind c r) : tokLen (c :: (r ++ d)) = some (r.length + 1) ↔ match d with
    | [] => True
    | a :: _ => ¬ ((isLF c = true ∧ isLF a = true) ∨ (r = [] ∧ [c, a] ∈ prs)) := by
  rw [tokLen_cons]
  cases k with
  | txt h n =>
    rw [if_pos rfl, qAt_app h]
    have hl : 1 ≤ r.length := by
      cases r with
      | nil => exact absurd rfl n
      | cons => simp
    have e : Option.map (· + 2) (some (r.length - 1)) = some (r.length + 1) := by
      show some (r.length - 1 + 2) = _
      congr 1; omega
    rw [e]
    cases d with
    | nil => simp
    | cons a d =>
      have h34 : isLF 34 = false := by decide +kernel
      simp [h34, n]
  | word h w =>
    have n34 : c ≠ 34 := isLF_ne h
    rw [if_neg n34, if_pos h, wE_app w]
    cases d with
    | nil => simp [wE]
    | cons a d =>
      have np : [c, a] ∉ prs := by
        intro p
        unfold prs at p
        simp only [List.mem_cons, List.cons.injEq, List.not_mem_nil, or_false, and_true] at p
        rcases p with ⟨rfl, _⟩ | ⟨rfl, _⟩ | ⟨rfl, _⟩ | ⟨rfl, _⟩ | ⟨rfl, _⟩ | ⟨rfl, _⟩ | ⟨rfl, _⟩ <;> (revert h; decide +kernel)
      by_cases q : isLF a = true
      · rw [wE_pos q]; simp [h, q]
      · rw [wE_neg q]; simp [q, np]
  | pair p n l =>
    rename_i e
    rw [if_neg n, if_neg (by rw [l]; decide)]
    have : (c :: ([e] ++ d)).take 2 = [c, e] := rfl
    rw [this, if_pos p]
    cases d <;> simp [l]
  | sign n l =>
    rw [if_neg n, if_neg (by rw [l]; decide)]
    cases d with
    | nil =>
      have : ¬ (c :: (([] : List Nat) ++ [])).take 2 ∈ prs := fun p => by have := prs_len p; simp at this
      rw [if_neg this]; simp
    | cons a d =>
      have : (c :: (([] : List Nat) ++ a :: d)).take 2 = [c, a] := rfl
      rw [this]
      by_cases p : [c, a] ∈ prs
      · rw [if_pos p]; simp [p]
      · rw [if_neg p]; simp [p, l]
theorem tok_end {x : List Nat} (h : isTk x) : tokLen x = some x.length := by
  obtain ⟨c, r, rfl, _, h⟩ := h
  exact h
theorem tok_head {x : List Nat} (h : isTk x) (a : Nat) (d d' : List Nat) : tokLen (x ++ a :: d) = some x.length ↔ tokLen (x ++ a :: d') = some x.length := by
  obtain ⟨c, r, rfl, _, h⟩ := h
  have k := kind_of h
  exact (kind_app k).trans (kind_app (d := a :: d') k).symm
theorem tok_bl {x : List Nat} (h : isTk x) (d : List Nat) : tokLen (x ++ 32 :: d) = some x.length := by
  obtain ⟨c, r, rfl, _, h⟩ := h
  refine (kind_app (kind_of h)).mpr ?_
  rintro (⟨_, q⟩ | ⟨_, q⟩)
  · revert q; decide +kernel
  · unfold prs at q; simp at q
def apart (x y : List Nat) : Bool := decide (tokLen (x ++ y) = some x.length)
def wr : Option (List Nat) → List (List Nat) → List Nat
  | _, [] => []
  | none, w :: ws => w ++ wr (some w) ws
  | some l, w :: ws => (if apart l w then w else 32 :: w) ++ wr (some w) ws
theorem wr_front {l : List Nat} (h : isTk l) : ∀ {ws : List (List Nat)}, (∀ w ∈ ws, isTk w) → tokLen (l ++ wr (some l) ws) = some l.length
  | [], _ => by
    show tokLen (l ++ []) = _
    rw [List.append_nil]; exact tok_end h
  | w :: ws, hw => by
    obtain ⟨c, r, e, _, _⟩ := hw w (by simp)
    show tokLen (l ++ ((if apart l w then w else 32 :: w) ++ wr (some w) ws)) = _
    by_cases q : apart l w = true
    · rw [if_pos q]
      have q2 := of_decide_eq_true q
      subst e
      rw [List.cons_append]
      exact (tok_head h c r _).mp q2
    · rw [if_neg q]
      exact tok_bl h _
theorem lex_tok {a : Nat} {x d : List Nat} (h : isTk x) (q : tokLen (x ++ d) = some x.length) : lexOf a (x ++ d) = cat [(x, a)] (lexOf (a + x.length) d) := by
  obtain ⟨c, r, rfl, n, _⟩ := h
  have e := lexOf_some (a := a) n (r := r ++ d) q
  rw [show c :: r ++ d = c :: (r ++ d) from rfl, e]
  have e1 : (c :: (r ++ d)).take (c :: r).length = c :: r := by
    rw [← List.cons_append, List.take_left]
  have e2 : (c :: (r ++ d)).drop (c :: r).length = d := by
    rw [← List.cons_append, List.drop_left]
  rw [e1, e2]
theorem lex_wr_some : ∀ {ws : List (List Nat)} (l : List Nat) (a : Nat), (∀ w ∈ ws, isTk w) → ∃ t, lexOf a (wr (some l) ws) = .ok t ∧ t.map (·.1) = ws
  | [], l, a, _ => ⟨[], rfl, rfl⟩
  | w :: ws, l, a, hw => by
    have h := hw w (by simp)
    have hs : ∀ v ∈ ws, isTk v := fun v hv => hw v (by simp [hv])
    have f := wr_front h hs
    show ∃ t, lexOf a ((if apart l w then w else 32 :: w) ++ wr (some w) ws) = .ok t ∧ _
    by_cases q : apart l w = true
    · rw [if_pos q, lex_tok h f]
      obtain ⟨t, e1, e2⟩ := lex_wr_some w (a + w.length) hs
      rw [e1]
      exact ⟨_, rfl, by simp [e2]⟩
    · rw [if_neg q, List.cons_append, lexOf_bl, lex_tok h f]
      obtain ⟨t, e1, e2⟩ := lex_wr_some w (a + 1 + w.length) hs
      rw [e1]
      exact ⟨_, rfl, by simp [e2]⟩
/-- what is written is read as it was -/
theorem lex_wr {ws : List (List Nat)} (a : Nat) (hw : ∀ w ∈ ws, isTk w) : ∃ t, lexOf a (wr none ws) = .ok t ∧ t.map (·.1) = ws := by
  cases ws with
  | nil => exact ⟨[], rfl, rfl⟩
  | cons w ws =>
    have h := hw w (by simp)
    have hs : ∀ v ∈ ws, isTk v := fun v hv => hw v (by simp [hv])
    show ∃ t, lexOf a (w ++ wr (some w) ws) = .ok t ∧ _
    rw [lex_tok h (wr_front h hs)]
    obtain ⟨t, e1, e2⟩ := lex_wr_some w (a + w.length) hs
    rw [e1]
    exact ⟨_, rfl, by simp [e2]⟩
/-- with a blank between any two -/
def wb : List (List Nat) → List Nat
  | [] => []
  | [w] => w
  | w :: v :: ws => w ++ 32 :: wb (v :: ws)
theorem lex_wb : ∀ {ws : List (List Nat)} (a : Nat), (∀ w ∈ ws, isTk w) → ∃ t, lexOf a (wb ws) = .ok t ∧ t.map (·.1) = ws
  | [], a, _ => ⟨[], rfl, rfl⟩
  | [w], a, hw => by
    have h := hw w (by simp)
    have e := lex_tok (a := a) (d := []) h (by rw [List.append_nil]; exact tok_end h)
    rw [List.append_nil] at e
    show ∃ t, lexOf a w = .ok t ∧ _
    rw [e]
    exact ⟨_, rfl, rfl⟩
  | w :: v :: ws, a, hw => by
    have h := hw w (by simp)
    show ∃ t, lexOf a (w ++ 32 :: wb (v :: ws)) = .ok t ∧ _
    rw [lex_tok h (tok_bl h _), lexOf_bl]
    obtain ⟨t, e1, e2⟩ := lex_wb (ws := v :: ws) (a + w.length + 1) fun u hu => hw u (by simp [List.mem_cons] at hu ⊢; exact .inr hu)
    rw [e1]
    exact ⟨_, rfl, by simp [e2]⟩
/-- what is read is tokens -/
theorem take_tk {c : Nat} {r : List Nat} {n : Nat} (h : c ≠ 32) (q : tokLen (c :: r) = some n) : isTk ((c :: r).take n) := by
  have hb := tokLen_le q
  obtain ⟨m, rfl⟩ : ∃ m, n = m + 1 := ⟨n - 1, by omega⟩
  refine ⟨c, r.take m, rfl, h, ?_⟩
  have hl : (r.take m).length = m := by rw [List.length_take]; omega
  rw [hl]
  rw [tokLen_cons] at q ⊢
  split at q
  · rename_i e
    rw [if_pos e]
    cases z : qAt r with
    | none => rw [z] at q; cases q
    | some k =>
      rw [z] at q
      have e3 : k + 2 = m + 1 := Option.some.inj q
      have hk : m = k + 1 := by omega
      subst hk
      have hkl := qAt_lt z
      have : qAt (r.take (k + 1)) = some k := by
        clear q e3 hl hb
        induction r generalizing k with
        | nil => cases z
        | cons d r ih =>
          rw [List.take_succ_cons]
          unfold qAt at z ⊢
          split at z
          · rename_i e4; rw [if_pos e4]; exact z
          · rename_i e4
            rw [if_neg e4]
            cases z2 : qAt r with
            | none => rw [z2] at z; cases z
            | some j =>
              rw [z2] at z
              have : j + 1 = k := Option.some.inj z
              subst this
              rw [ih j z2 (qAt_lt z2)]; rfl
      rw [this]; rfl
  · rename_i e
    rw [if_neg e]
    split at q
    · rename_i e2
      rw [if_pos e2]
      have e3 : wE r + 1 = m + 1 := Option.some.inj q
      have e4 : wE r = m := by omega
      subst e4
      congr 2
      unfold wE
      clear q e3 hl hb
      induction r with
      | nil => rfl
      | cons d r ih =>
        by_cases g : isLF d = true
        · rw [List.takeWhile_cons_of_pos g, List.length_cons, List.take_succ_cons, List.takeWhile_cons_of_pos g, List.length_cons, ih]
        · rw [List.takeWhile_cons_of_neg g]; rfl
    · rename_i e2
      rw [if_neg e2]
      split at q
      · rename_i p
        have e3 : 2 = m + 1 := Option.some.inj q
        have : m = 1 := by omega
        subst this
        have e5 : (c :: r.take 1).take 2 = (c :: r).take 2 := by
          cases r <;> rfl
        rw [e5, if_pos p]
      · have e3 : 1 = m + 1 := Option.some.inj q
        have : m = 0 := by omega
        subst this
        have : ¬ (c :: r.take 0).take 2 ∈ prs := fun p => by have := prs_len p; simp at this
        rw [if_neg this]
theorem lex_tk {a : Nat} {l : List Nat} {t : List Tk} (h : lexOf a l = .ok t) : ∀ x ∈ t, isTk x.1 :=
  lex_all (fun x => isTk x.1) (fun _ _ _ _ n q => take_tk n q) _ _ _ _ (Nat.le_refl _) h
end Z
namespace Z
open PySem PySem.Spec PyProof.Rows L2
theorem isTk_sign {c : Nat} (h : c ≠ 34) (h2 : c ≠ 32) (h3 : isLF c = false) : isTk [c] := by
  refine ⟨c, [], rfl, h2, ?_⟩
  rw [tokLen_cons, if_neg h, if_neg (by rw [h3]; decide)]
  have : ¬ ([c] : List Nat).take 2 ∈ prs := fun p => by have := prs_len p; simp at this
  rw [if_neg this]; rfl
theorem isTk_word {l : List Nat} (h : l ≠ []) (h2 : ∀ c ∈ l, isLF c = true) : isTk l := by
  cases l with
  | nil => exact absurd rfl h
  | cons c r =>
    have hc := h2 c (by simp)
    have n34 := isLF_ne hc
    refine ⟨c, r, rfl, by intro e; subst e; revert hc; decide +kernel, ?_⟩
    rw [tokLen_cons, if_neg n34, if_pos hc]
    have : wE r = r.length := wE_all.mpr (List.all_eq_true.mpr fun d hd => h2 d (by simp [hd]))
    rw [this]
theorem qAt_last : ∀ {r : List Nat}, 34 ∉ r → qAt (r ++ [34]) = some r.length
  | [], _ => rfl
  | c :: r, h => by
    have h1 : c ≠ 34 := fun e => h (by simp [e])
    show qAt (c :: (r ++ [34])) = _
    unfold qAt
    rw [if_neg h1, qAt_last fun e => h (by simp [e])]; rfl
theorem isTk_text {r : List Nat} (h : 34 ∉ r) : isTk (34 :: (r ++ [34])) := by
  refine ⟨34, _, rfl, by decide, ?_⟩
  rw [tokLen_cons, if_pos rfl, qAt_last h]
  simp
theorem isTk_pair {l : List Nat} (h : l ∈ prs) : isTk l := by
  obtain ⟨a, b, rfl⟩ := prs_two h
  have q : ∀ l ∈ prs, isLF (l.getD 0 0) = false ∧ l.getD 0 0 ≠ 34 := by decide +kernel
  obtain ⟨q1, q2⟩ := q _ h
  refine ⟨a, [b], rfl, prs_blank h, ?_⟩
  rw [tokLen_cons, if_neg (show a ≠ 34 from q2), if_neg (by rw [show isLF a = false from q1]; decide)]
  have : ([a, b] : List Nat).take 2 = [a, b] := rfl
  rw [this, if_pos h]; rfl
/-- what the law looks at, at two tokens' ends -/
def partsL (x y : List Nat) : Bool := (isLF (x.getLastD 0) && (decide (x.getD 0 0 ≠ 34) && isLF (y.getD 0 0))) || (decide (x.length = 1) && decide ([x.getD 0 0, y.getD 0 0] ∈ prs))
theorem parts_eq {x y : List Nat} (hx : isTk x) (hy : y ≠ []) : partsL x y = !apart x y := by
  obtain ⟨c, r, rfl, n, h⟩ := hx
  cases y with
  | nil => exact absurd rfl hy
  | cons a d =>
    have k := kind_of h
    have ka := kind_app (d := a :: d) k
    have e : apart (c :: r) (a :: d) = decide (¬ ((isLF c = true ∧ isLF a = true) ∨ (r = [] ∧ [c, a] ∈ prs))) := by
      unfold apart
      rw [decide_eq_decide]
      exact ka
    rw [e]
    unfold partsL
    show ((isLF ((c :: r).getLastD 0) && (decide (c ≠ 34) && isLF a)) || (decide (r.length + 1 = 1) && decide ([c, a] ∈ prs))) = _
    have h34 : isLF 34 = false := by decide +kernel
    have npw : isLF c = true → [c, a] ∉ prs := by
      intro h p
      unfold prs at p
      simp only [List.mem_cons, List.cons.injEq, List.not_mem_nil, or_false, and_true] at p
      rcases p with ⟨rfl, _⟩ | ⟨rfl, _⟩ | ⟨rfl, _⟩ | ⟨rfl, _⟩ | ⟨rfl, _⟩ | ⟨rfl, _⟩ | ⟨rfl, _⟩ <;> (revert h; decide +kernel)
    cases k with
    | txt h n =>
      have : r.length + 1 ≠ 1 := by
        cases r with
        | nil => exact absurd rfl n
        | cons => simp
      simp [h34, n]
    | word h w =>
      have hl : isLF ((c :: r).getLastD 0) = true := by
        have hall : ∀ d ∈ c :: r, isLF d = true := by
          intro d hd
          rcases List.mem_cons.mp hd with rfl | hd
          · exact h
          · exact List.all_eq_true.mp (wE_all.mp w) d hd
        refine hall _ ?_
        rw [List.getLastD_eq_getLast?, List.getLast?_eq_some_getLast (by simp)]
        exact List.getLast_mem _
      have n34 := isLF_ne h
      rw [hl]
      simp [h, n34, npw h]
    | pair p n l =>
      rename_i e
      have q : ∀ l ∈ prs, isLF (l.getLastD 0) = false := by decide +kernel
      have := q _ p
      rw [this]
      simp [l]
    | sign n l =>
      have : isLF ([c].getLastD 0) = false := l
      rw [this]
      simp [l]
theorem prs_all (l : List Nat) : l ∈ prs ↔ l = [61, 61] ∨ l = [33, 61] ∨ l = [60, 61] ∨ l = [62, 61] ∨ l = [38, 38] ∨ l = [124, 124] ∨ l = [45, 62] := by
  unfold prs
  simp only [List.mem_cons, List.not_mem_nil, or_false]
end Z
namespace Z
open PySem PySem.Spec PyProof.Rows L2
/-- how much a list of texts takes, a sign more for each -/
def sumS (ws : List Str) : Nat := (ws.map fun w => w.length + 1).sum
theorem sumS_snoc (ws : List Str) (w : Str) : sumS (ws ++ [w]) = sumS ws + (w.length + 1) := by
  unfold sumS; rw [List.map_append, List.sum_append]; simp
theorem sumS_len : ∀ ws : List Str, ws.length ≤ sumS ws
  | [] => by simp
  | w :: ws => by
    have := sumS_len ws
    unfold sumS at this ⊢
    rw [List.map_cons, List.sum_cons, List.length_cons]; omega
theorem sumS_mem : ∀ {ws : List Str} {w : Str}, w ∈ ws → w.length + 1 ≤ sumS ws
  | [], w, h => by simp at h
  | a :: ws, w, h => by
    unfold sumS
    rw [List.map_cons, List.sum_cons]
    rcases List.mem_cons.mp h with rfl | h2
    · omega
    · have := sumS_mem h2
      unfold sumS at this; omega
def Toks (ws : List Str) : Prop := ∀ w ∈ ws, isTk (cl w)
theorem Toks.snoc {ws : List Str} {w : Str} (h : Toks ws) (hw : isTk (cl w)) : Toks (ws ++ [w]) := fun v hv => by
  rcases List.mem_append.mp hv with h2 | h2
  · exact h v h2
  · rw [List.mem_singleton] at h2; subst h2; exact hw
end Z
namespace Z
open PySem PySem.Spec PyProof.Rows L2
theorem join_wb : ∀ ws : List Str, cl (Str.join (" " : Str) ws) = wb (ws.map cl)
  | [] => by decide +kernel
  | [w] => by
    show cl w = _
    rfl
  | w :: v :: ws => by
    rw [PyProof.Rows.join_cons_cons, cl_append, cl_append, join_wb (v :: ws), List.append_assoc, show cl (" " : Str) = [32] by rw [one_bl]]
    rfl
theorem wb_len : ∀ ws : List (List Nat), (wb ws).length ≤ (ws.map fun w => w.length + 1).sum
  | [] => by simp [wb]
  | [w] => by simp [wb]
  | w :: v :: ws => by
    have := wb_len (v :: ws)
    show (w ++ 32 :: wb (v :: ws)).length ≤ _
    rw [List.length_append, List.length_cons, List.map_cons, List.sum_cons]
    omega
end Z

set_option Elab.async false
set_option linter.all false
set_option maxRecDepth 100000
set_option maxHeartbeats 4000000
/-! ### pieces as plain data; more rules; helps for goals over trees -/
namespace Z
open PySem PySem.Spec PyProof.Rows L2
structure SG where
  page : List Nat
  row : Int
  col : Int
  way : List (List Nat)
deriving DecidableEq
structure PC where
  text : List Nat
  signs : List SG
  paint : List (List Nat)
deriving DecidableEq
abbrev dStrs (l : List (List Nat)) : List D := l.map D.str
def dSg (s : SG) : D := .tup [.str s.page, .int s.row, .int s.col, .tup (dStrs s.way)]
def dPc (p : PC) : D := .ins "Piece" [("text", .str p.text), ("signs", .tup (p.signs.map dSg)), ("paint", .tup (dStrs p.paint))]
abbrev dPcs (l : List PC) : List D := l.map dPc
theorem dPcs_app (a b : List PC) : dPcs (a ++ b) = dPcs a ++ dPcs b := List.map_append
/-- a token's piece as read -/
def pcO (page : List Nat) (number : Int) (t : Tk) : PC := ⟨t.1, (List.range t.1.length).map fun k => ⟨page, number, (t.2 + k : Nat), []⟩, []⟩
/-! slices, items -/
theorem cutD_nat {α : Type} (l : List α) (i j : Nat) : cutD l (some (i : Int)) (some (j : Int)) = (l.drop i).take (j - i) := by
  unfold cutD
  rw [HT.sIx_nat, HT.sIx_nat, part_nat]
theorem cutD_from {α : Type} (l : List α) (i : Nat) : cutD l (some (i : Int)) none = l.drop i := by
  show (l.drop (HT.sIx l.length 0 (some (i : Int)))).take (l.length - HT.sIx l.length 0 (some (i : Int))) = _
  rw [HT.sIx_nat]
  by_cases h : i ≤ l.length
  · rw [Nat.min_eq_left h, List.take_of_length_le (by rw [List.length_drop]; omega)]
  · rw [Nat.min_eq_right (by omega), show l.drop i = [] from List.drop_eq_nil_of_le (by omega), List.drop_eq_nil_of_le (Nat.le_refl _), List.take_nil]
theorem cutD_to {α : Type} (l : List α) (j : Nat) : cutD l none (some (j : Int)) = l.take j := by
  show (l.drop 0).take (HT.sIx l.length l.length (some (j : Int)) - 0) = _
  rw [HT.sIx_nat, List.drop_zero, Nat.sub_zero]
  by_cases h : j ≤ l.length
  · rw [Nat.min_eq_left h]
  · rw [Nat.min_eq_right (by omega), List.take_of_length_le (Nat.le_refl _), List.take_of_length_le (by omega)]
theorem cutD_map {α β : Type} (f : α → β) (l : List α) (i j : Option Int) : cutD (l.map f) i j = (cutD l i j).map f := by
  unfold cutD
  rw [List.length_map, List.map_take, List.map_drop]
theorem atI_map {α β : Type} {f : α → β} {l : List α} {i : Int} {a : α} (h : atI l i = some a) : atI (l.map f) i = some (f a) := by
  unfold atI at h ⊢
  rw [List.length_map]
  cases e : ixN l.length i with
  | none => rw [e] at h; cases h
  | some j =>
    rw [e] at h
    show (l.map f)[j]? = _
    rw [List.getElem?_map, show l[j]? = some a from h]; rfl
theorem at_zero {α : Type} {a : α} {l : List α} : atI (a :: l) 0 = some a := atI_nat (j := 0) rfl
/-- some item of a list, by a number within it -/
theorem at_some {α : Type} {l : List α} {i : Int} (h0 : 0 ≤ i) (h1 : i < l.length) : ∃ a, atI l i = some a ∧ a ∈ l ∧ l[i.toNat]? = some a := by
  have h : i.toNat < l.length := by omega
  exact ⟨_, at_of2 h0 (List.getElem?_eq_getElem h), List.getElem_mem h, List.getElem?_eq_getElem h⟩
theorem atN {α : Type} {l : List α} {i : Nat} {a : α} (h : l[i]? = some a) : atI l (i : Int) = some a := atI_nat h
theorem map_get {α β : Type} {f : α → β} {l : List α} {i : Nat} {b : β} (h : (l.map f)[i]? = some b) : ∃ a, l[i]? = some a ∧ b = f a := by
  rw [List.getElem?_map] at h
  cases q : l[i]? with
  | none => rw [q] at h; cases h
  | some w => rw [q] at h; exact ⟨w, rfl, (Option.some.inj h).symm⟩
/-! one text within another from a place on, counts -/
section
variable {K : PySem.W.Frag} [Gd K] {X : Cx} {o e : Expr} {es : List Expr} {to te : TE} {dO de : DTE} {t : TA} {dt : DTA} {n : Nat} {apos cpos : Pos}
def dBMS (d : DTE) (da : DTA) (r : List Nat → List DV → Cs → (DV → Cs → Prop) → Prop) : DTE := fun S C Q => d S C fun x C1 => match x with | .of (.str l) => da S C1 fun xs C2 => r l xs C2 Q | _ => False
def dFind3 : List Nat → List DV → Cs → (DV → Cs → Prop) → Prop := fun l xs C Q => match xs with | [.of (.str s), .of (.int i)] => Q (.of (.int (Txt.find3 ⟨l.toArray⟩ ⟨s.toArray⟩ i))) C | _ => False
theorem str_mk (z : Str) : (⟨(cl z).toArray⟩ : Str) = z := str_eq.mpr rfl
theorem qe_find3 (hK : X.K = K) (ho : QE K X o to dO) (ha : QA K X (e :: es) n t dt)
    (hbase : attributeBase o "find" X.env (eval o X.env) = eval o X.env := by rfl)
    (hfew : ((backTo cpos (starEach (e :: es) X.env)).all (fun x => !x.1) && (backToKw cpos (keywordEach [] X.env)).all (fun x => x.1.isSome)
      && decide ((e :: es).length + ([] : List Keyword).length + (if ([] : List Keyword).isEmpty then 0 else 1) < 30)) = true := by rfl)
    (hline : (apos.endLine == cpos.line) = true := by rfl) (hs : starEach (e :: es) X.env = (false, eval e X.env) :: starEach es X.env := by rfl) (hplain : (backTo cpos (starEach es X.env)).any (·.1) = false := by rfl) :
    QE K X (.Call (.Attribute o "find" apos) (e :: es) [] cpos) (tBM K "str" (fun x xs H Q => ∃ (a b : Str) (i : Int), x = .str a ∧ xs = [.str b, .int i] ∧ Q (.int (Txt.find3 a b i)) H) to t) (dBMS dO dt dFind3) :=
  ⟨by subst hK; exact pe_bm PySem.F.plainAttrs_str PySem.F.slot_str_find PySem.F.type_str_find mt_find3 ho.p ha.p hbase hfew hline hs hplain, fun W S C σ s QD Q q k => ho.r W S C σ s _ _ q fun v x W1 C1 e1 s1 r1 q1 => by
  split at q1
  · obtain ⟨z, rfl, rfl⟩ := rep_str r1
    refine ⟨rfl, ha.r W1 S C1 σ s1 _ _ q1 fun vs xs W2 C2 hl e2 s2 r2 q2 => ?_⟩
    unfold dFind3 at q2
    split at q2
    · obtain ⟨v, u, rfl, r3, r4⟩ := repVs2 r2
      obtain ⟨y, rfl, rfl⟩ := rep_str r3
      cases r4
      rw [str_mk, str_mk] at q2
      exact ⟨z, y, _, rfl, rfl, k.at (e1.trans e2) s2 (.int _) q2⟩
    · exact q2.elim
  · exact q1.elim⟩
end
theorem find_q (l : List Nat) (i : Nat) (hi : i < l.length) : Txt.find3 ⟨l.toArray⟩ ⟨([34] : List Nat).toArray⟩ ((i : Int) + 1) = match qAt (l.drop (i + 1)) with | none => -1 | some k => (i : Int) + 1 + (k : Nat) := by
  have gD : ∀ (l : List Nat) (i v : Nat), (l.drop i).getD v 0 = l.getD (i + v) 0 := fun l i v => by
    rw [List.getD_eq_getElem?_getD, List.getD_eq_getElem?_getD, List.getElem?_drop]
  have gC : ∀ v, (⟨l.toArray⟩ : Str).cps.getD v 0 = l.getD v 0 := fun v => by
    rw [getD_clx]
  have fi : ∀ {n k : Nat}, PySem.fromIndex n (k : Int) = k := fun {n k} => by
    unfold PySem.fromIndex
    rw [if_neg (by omega)]; omega
  have hl : (⟨l.toArray⟩ : Str).length = l.length := lenS l
  have e0 : (((i + 1 : Nat)) : Int) = (i : Int) + 1 := rfl
  rw [← e0]
  rcases PySem.StrLaws.find3_spec ⟨l.toArray⟩ 34 ((i + 1 : Nat) : Int) with ⟨h1, h2⟩ | ⟨k, h1, h2, h3, h4, h5⟩
  · rw [show (⟨([34] : List Nat).toArray⟩ : Str) = ⟨#[34]⟩ from rfl, h1, qAt_none (l := l.drop (i + 1)) fun v hv => by
      rw [List.length_drop] at hv
      rw [gD, ← gC]
      exact h2 _ (by rw [fi]; omega) (by omega)]
  · rw [fi] at h2
    rw [show (⟨([34] : List Nat).toArray⟩ : Str) = ⟨#[34]⟩ from rfl, h1, qAt_some (l := l.drop (i + 1)) (k := k - (i + 1)) (by rw [List.length_drop]; omega) (by rw [gD, ← gC, show i + 1 + (k - (i + 1)) = k by omega]; exact h4) fun v hv => by
      rw [gD, ← gC]
      exact h5 _ (by rw [fi]; omega) (by omega)]
    show (k : Int) = (i : Int) + 1 + ((k - (i + 1) : Nat) : Int)
    omega
end Z

set_option Elab.async false
set_option linter.all false
set_option maxRecDepth 100000
set_option maxHeartbeats 4000000
/-! ### dicts by texts, over trees; instances that hold one -/
namespace Z
open PySem PySem.Spec PyProof.Rows L2
abbrev Kvs := List (List Nat × D)
def valT (kvs : Kvs) (k : List Nat) : Option D := (kvs.find? fun kv => decide (kv.1 = k)).map (·.2)
def hasT (kvs : Kvs) (k : List Nat) : Bool := kvs.any fun kv => decide (kv.1 = k)
def putT (kvs : Kvs) (k : List Nat) (d : D) : Kvs := if hasT kvs k = true then kvs.map (fun kv => if kv.1 = k then (kv.1, d) else kv) else kvs ++ [(k, d)]
def dropT (kvs : Kvs) (k : List Nat) : Kvs := kvs.filter fun kv => decide (kv.1 ≠ k)
section
variable {K : PySem.W.Frag} [Gd K] {W : Wd} {S : Sl} {C : Cs} {σ : L2.St} {z : Str}
theorem key_eq {p : Key × V} {q : List Nat × D} (h : ∃ y : Str, p.1 = .inr y ∧ cl y = q.1) : (p.1 = .inr z) = (q.1 = cl z) := by
  obtain ⟨y, h1, h2⟩ := h
  rw [h1, ← h2]
  exact propext ⟨fun e => by cases e; rfl, fun e => by rw [str_eq.mpr e]⟩
theorem RepKv.len {vs : List (Key × V)} {kvs : Kvs} (r : RepKv K W vs kvs) : vs.length = kvs.length := Paired.length r
theorem RepKv.val : ∀ {vs : List (Key × V)} {kvs : Kvs}, RepKv K W vs kvs → (valV vs (.inr z) = none ∧ valT kvs (cl z) = none) ∨ ∃ v d, valV vs (.inr z) = some v ∧ valT kvs (cl z) = some d ∧ Rep K W v d
  | _, _, .nil => .inl ⟨rfl, rfl⟩
  | _, _, .cons (a := p) (b := q) h t => by
    have hk := key_eq (z := z) h.1
    unfold valV valT
    rw [List.find?_cons, List.find?_cons]
    by_cases e : q.1 = cl z
    · have e' : p.1 = .inr z := hk ▸ e
      rw [decide_eq_true e, decide_eq_true e']
      exact .inr ⟨_, _, rfl, rfl, h.2⟩
    · have e' : ¬ p.1 = .inr z := fun x => e (hk ▸ x)
      rw [decide_eq_false e, decide_eq_false e']
      exact RepKv.val t
theorem RepKv.some {vs : List (Key × V)} {kvs : Kvs} {d : D} (r : RepKv K W vs kvs) (h : valT kvs (cl z) = some d) : ∃ v, valV vs (.inr z) = some v ∧ Rep K W v d := by
  rcases r.val (z := z) with ⟨_, e⟩ | ⟨v, d', e1, e2, e3⟩
  · rw [h] at e; cases e
  · rw [h] at e2; cases e2; exact ⟨v, e1, e3⟩
theorem RepKv.none {vs : List (Key × V)} {kvs : Kvs} (r : RepKv K W vs kvs) (h : valT kvs (cl z) = none) : valV vs (.inr z) = none := by
  rcases r.val (z := z) with ⟨e, _⟩ | ⟨v, d', e1, e2, e3⟩
  · exact e
  · rw [h] at e2; cases e2
theorem RepKv.isSome {vs : List (Key × V)} {kvs : Kvs} (r : RepKv K W vs kvs) : (valV vs (.inr z)).isSome = (valT kvs (cl z)).isSome := by
  rcases r.val (z := z) with ⟨e1, e2⟩ | ⟨v, d', e1, e2, e3⟩ <;> rw [e1, e2] <;> rfl
theorem hasT_val (kvs : Kvs) (k : List Nat) : hasT kvs k = (valT kvs k).isSome := by
  induction kvs with
  | nil => rfl
  | cons p r ih =>
    unfold hasT valT at *
    rw [List.any_cons, List.find?_cons]
    cases decide (p.1 = k) with
    | true => rfl
    | false => simpa using ih
theorem RepKv.app {vs us : List (Key × V)} {kvs jvs : Kvs} (h : RepKv K W vs kvs) (t : RepKv K W us jvs) : RepKv K W (vs ++ us) (kvs ++ jvs) := by
  induction h with
  | nil => exact t
  | cons h' t' ih => exact .cons h' ih
theorem RepKv.put {vs : List (Key × V)} {kvs : Kvs} {v : V} {d : D} (r : RepKv K W vs kvs) (rv : Rep K W v d) : RepKv K W (putK vs (.inr z) v) (putT kvs (cl z) d) := by
  unfold putK putT
  rw [valV_any, r.isSome, ← hasT_val]
  by_cases q : hasT kvs (cl z) = true
  · rw [if_pos q, if_pos q]
    clear q
    induction r with
    | nil => exact .nil
    | cons h t ih =>
      rename_i p q ps qs
      rw [List.map_cons, List.map_cons]
      refine .cons ?_ ih
      have hk := key_eq (z := z) h.1
      by_cases e : q.1 = cl z
      · have e' : p.1 = .inr z := hk ▸ e
        rw [if_pos e, if_pos e']
        exact ⟨h.1, rv⟩
      · have e' : ¬ p.1 = .inr z := fun x => e (hk ▸ x)
        rw [if_neg e, if_neg e']
        exact h
  · rw [if_neg q, if_neg q]
    exact r.app (.cons ⟨⟨z, rfl, rfl⟩, rv⟩ .nil)
theorem RepKv.drop {vs : List (Key × V)} {kvs : Kvs} (r : RepKv K W vs kvs) : RepKv K W (dropK vs (.inr z)) (dropT kvs (cl z)) := by
  unfold dropK dropT
  induction r with
  | nil => exact .nil
  | cons h t ih =>
    rename_i p q ps qs
    rw [List.filter_cons, List.filter_cons]
    have hk := key_eq (z := z) h.1
    by_cases e : q.1 = cl z
    · have e' : p.1 = .inr z := hk ▸ e
      simp only [ne_eq, e, e', not_true_eq_false, decide_false, Bool.false_eq_true, if_false]
      have ih' : RepKv K W _ _ := ih
      simpa [RepKv] using ih'
    · have e' : ¬ p.1 = .inr z := fun x => e (hk ▸ x)
      simp only [ne_eq, e, e', not_false_eq_true, decide_true, if_true]
      exact .cons h (by have ih' : RepKv K W _ _ := ih; simpa [RepKv] using ih')
theorem RepKv.keys : ∀ {vs : List (Key × V)} {kvs : Kvs}, RepKv K W vs kvs → ∃ ks : List Str, vs.map (·.1) = ks.map Sum.inr ∧ ks.map cl = kvs.map (·.1)
  | _, _, .nil => ⟨[], rfl, rfl⟩
  | _, _, .cons (a := p) (b := q) h t => by
    obtain ⟨ks, h1, h2⟩ := RepKv.keys t
    obtain ⟨y, h3, h4⟩ := h.1
    exact ⟨y :: ks, by rw [List.map_cons, List.map_cons, h1, h3], by rw [List.map_cons, List.map_cons, h2, h4]⟩
/-! a dict that is read -/
def rdB (x : DV) (C : Cs) : Option Kvs := match x with
  | .sub i => (match C[i]? with | .some (.dob _ _ k) => .some k | _ => .none)
  | .cel i => (match C[i]? with | .some (.dct k) => .some k | _ => .none)
  | _ => .none
theorem rdB_ok {v : V} {x : DV} {kvs : Kvs} (m : Mem K W C) (r : RepV K W v x) (h : rdB x C = .some kvs) : ∃ a vs, v = .ref a ∧ W.H a = .some (.dK vs) ∧ RepKv K W vs kvs := by
  cases x with
  | of d => cases h
  | bor l => cases h
  | scr l => cases h
  | sub i =>
    obtain ⟨a, d, h1, rfl⟩ := r
    have h' : (match C[i]? with | .some (.dob _ _ k) => Option.some k | _ => .none) = .some kvs := h
    split at h'
    · rename_i c f k hc
      cases h'
      obtain ⟨⟨d', dx, vs, e, _, _, q1, q2⟩, _⟩ := m.cell i _ a _ hc h1 trivial
      cases e
      exact ⟨d, vs, rfl, q1, q2⟩
    · cases h'
  | cel i =>
    obtain ⟨a, fp, h1, rfl⟩ := r
    have h' : (match C[i]? with | .some (.dct k) => Option.some k | _ => .none) = .some kvs := h
    split at h'
    · rename_i k hc
      cases h'
      obtain ⟨⟨_, vs, q1, q2⟩, _⟩ := m.cell i _ a fp hc h1 trivial
      exact ⟨a, vs, rfl, q1, q2⟩
    · cases h'
/-- a dict is written -/
def setB (x : DV) (C : Cs) (l' : Kvs) (k : Cs → Prop) : Prop := match x with
  | .sub i => (match C[i]? with | .some (.dob c g _) => k (C.set i (.dob c g l')) | _ => False)
  | .cel i => (match C[i]? with | .some (.dct _) => k (C.set i (.dct l')) | _ => False)
  | _ => False
theorem setB_ok {x : DV} {v : V} {l' : Kvs} {k : Cs → Prop} (s : Sta K W S C σ) (r : RepV K W v x) (h : setB x C l' k) :
    ∃ a C', v = .ref a ∧ k C' ∧ ∀ vs', RepKv K W vs' l' → Ext W { W with H := L2.upd W.H a (.dK vs') } ∧ Sta K { W with H := L2.upd W.H a (.dK vs') } S C' σ := by
  unfold setB at h
  split at h
  · rename_i i
    obtain ⟨a, d, h1, rfl⟩ := r
    split at h
    · rename_i c g l hc
      obtain ⟨⟨d', dx, vs, e, ne, q0, q1, q2⟩, q3⟩ := s.m.cell i _ a _ hc h1 trivial
      cases e
      refine ⟨d, _, rfl, h, fun vs' r' => ?_⟩
      have kk : ∀ b, b ∉ [a, d] → L2.upd W.H d (.dK vs') b = W.H b := fun b hb => upd_ne fun e => hb (by rw [e]; simp)
      have tt : ∀ b ∈ [a, d], L2.upd W.H d (.dK vs') b ≠ .none := fun b hb => by
        by_cases e : b = d
        · rw [e, upd_same]; simp
        · rw [upd_ne e]
          have : b = a := by simpa [e] using hb
          rw [this, q0]; simp
      have ex : Ext W { W with H := L2.upd W.H d (.dK vs') } := Ext.write q3 kk tt
      exact ⟨ex, s.m.write hc trivial h1 kk tt ⟨d, dx, vs', rfl, ne, by show L2.upd W.H d _ a = _; rw [upd_ne (Ne.symm ne)]; exact q0, upd_same, r'.mono (ex.pers s.m.wrws)⟩, s.s.mono s.m ex, Gd.ext s.g ex⟩
    · exact h.elim
  · rename_i i
    obtain ⟨a, fp, h1, rfl⟩ := r
    split at h
    · rename_i l hc
      obtain ⟨⟨rfl, vs, q1, q2⟩, q3⟩ := s.m.cell i _ a _ hc h1 trivial
      refine ⟨a, _, rfl, h, fun vs' r' => ?_⟩
      have kk : ∀ b, b ∉ [a] → L2.upd W.H a (.dK vs') b = W.H b := fun b hb => upd_ne fun e => hb (by rw [e]; simp)
      have tt : ∀ b ∈ [a], L2.upd W.H a (.dK vs') b ≠ .none := fun b hb => by
        rw [List.mem_singleton] at hb
        rw [hb, upd_same]; simp
      have ex : Ext W { W with H := L2.upd W.H a (.dK vs') } := Ext.write q3 kk tt
      exact ⟨ex, s.m.write hc trivial h1 kk tt ⟨rfl, vs', upd_same, r'.mono (ex.pers s.m.wrws)⟩, s.s.mono s.m ex, Gd.ext s.g ex⟩
    · exact h.elim
  · exact h.elim
end
section
variable {K : PySem.W.Frag} [Gd K] {X : Cx} {a b e i o : Expr} {ta tb te ti to : TE} {da db de di dO : DTE} {pos apos cpos : Pos}
/-! in, not in -/
def rInB (neg : Bool) : R2 := fun x y H Q => ∃ a o, y = .ref a ∧ DGet H a x o ∧ Q (.bl (cond neg (!o.isSome) o.isSome)) H
def dInB (neg : Bool) : DR2 := fun x y C Q => match x, rdB y C with
  | .of (.str k), .some l => Q (.of (.bl (cond neg (!hasT l k) (hasT l k)))) C
  | _, _ => False
theorem refR_inB {neg : Bool} : RefR K (rInB neg) (dInB neg) := fun W S C σ st v u x y QD Q rx ry q k => by
  unfold dInB at q
  split at q
  · rename_i kk l hl
    obtain ⟨z, rfl, rfl⟩ := rep_str rx
    obtain ⟨a, vs, rfl, h1, h2⟩ := rdB_ok st.m ry hl
    refine ⟨a, _, rfl, DGet.k (k := .inr z) h1, k.here st (.bl _) ?_⟩
    rw [h2.isSome, ← hasT_val]
    exact q
  · exact q.elim
theorem oq_inB (hu : X.A.units + 64 < cLine) : QOp K X (compareOp .In) (rInB false) (dInB false) := ⟨fun pins s σ H x y v u Q I rx ry h => by
  obtain ⟨a, o, rfl, g, q⟩ := h
  obtain rfl : u = Value.ref a := ry
  exact d_in (by omega) I g rx fun s' I' => ⟨.bl o.isSome, H, I', rfl, q⟩, refR_inB⟩
theorem oq_notInB (hu : X.A.units + 64 < cLine) : QOp K X (compareOp .NotIn) (rInB true) (dInB true) := ⟨fun pins s σ H x y v u Q I rx ry h => by
  obtain ⟨a, o, rfl, g, q⟩ := h
  obtain rfl : u = Value.ref a := ry
  exact d_notIn (by omega) I g rx fun s' I' => ⟨.bl (!o.isSome), H, I', rfl, q⟩, refR_inB⟩
/-! d[k], d.get(k), d.pop(k, x) -/
def dDGet (dd dk : DTE) : DTE := fun S C Q => dd S C fun x C1 => dk S C1 fun y C2 => match rdB x C2, y with
  | .some l, .of (.str k) => ∃ d, valT l k = .some d ∧ Q (.of d) C2
  | _, _ => False
theorem qe_dget (hu : X.A.units + 64 < cLine) (ho : QE K X o to dO) (hi : QE K X i ti di) (hs : NoSl i) : QE K X (.Subscript o i pos) (tDGet to ti) (dDGet dO di) := ⟨pe_dget (by omega) ho.p hi.p hs, fun W S C σ s QD Q q k =>
  ho.r W S C σ s _ _ q fun v x W1 C1 e1 s1 r1 q1 => hi.r W1 S C1 σ s1 _ _ q1 fun u y W2 C2 e2 s2 r2 q2 => by
    split at q2
    · rename_i l kk hl
      obtain ⟨d, hd, q3⟩ := q2
      obtain ⟨z, rfl, rfl⟩ := rep_str r2
      obtain ⟨a, vs, rfl, h1, h2⟩ := rdB_ok s2.m (r1.mono s1.m e2) hl
      obtain ⟨w, h3, h4⟩ := h2.some hd
      exact ⟨a, w, rfl, h3 ▸ DGet.k (k := .inr z) h1, k.at (e1.trans e2) s2 h4 q3⟩
    · exact q2.elim⟩
def dDGet1 (dd dk : DTE) : DTE := fun S C Q => dd S C fun x C1 => match rdB x C1 with
  | .some _ => dk S C1 fun y C2 => (match rdB x C2, y with | .some l, .of (.str k) => Q (.of ((valT l k).getD .non)) C2 | _, _ => False)
  | .none => False
theorem qe_dget1 (hu : X.A.units + 64 < cLine) (ho : QE K X o to dO) (hi : QE K X i ti di) (m : M1 X o "get" apos i cpos) : QE K X (.Call (.Attribute o "get" apos) [i] [] cpos) (tDGet1 to ti) (dDGet1 dO di) := ⟨pe_dget1 (by omega) ho.p hi.p m, fun W S C σ s QD Q q k =>
  ho.r W S C σ s _ _ q fun v x W1 C1 e1 s1 r1 q1 => by
    split at q1
    · rename_i l0 hl0
      obtain ⟨a, vs0, rfl, g1, g2⟩ := rdB_ok s1.m r1 hl0
      refine ⟨a, rfl, .inl ⟨vs0, .inl g1⟩, hi.r W1 S C1 σ s1 _ _ q1 fun u y W2 C2 e2 s2 r2 q2 => ?_⟩
      split at q2
      · rename_i l kk hl
        obtain ⟨z, rfl, rfl⟩ := rep_str r2
        obtain ⟨a', vs, e, h1, h2⟩ := rdB_ok s2.m (r1.mono s1.m e2) hl
        cases e
        refine ⟨_, DGet.k (k := .inr z) h1, ?_⟩
        rcases h2.val (z := z) with ⟨e1', e2'⟩ | ⟨w, d', e1', e2', e3'⟩
        · rw [e1']
          rw [e2'] at q2
          exact k.at (e1.trans e2) s2 .non q2
        · rw [e1']
          rw [e2'] at q2
          exact k.at (e1.trans e2) s2 e3' q2
      · exact q2.elim
    · exact q1.elim⟩
/-- d.pop(k, None) -/
def dDPop (dd dk : DTE) : DTE := fun S C Q => dd S C fun x C1 => match rdB x C1 with
  | .some _ => dk S C1 fun y C2 => (match y with | .of (.str k) => (match rdB x C2 with | .some l => (match valT l k with | .some d => setB x C2 (dropT l k) fun C3 => Q (.of d) C3 | .none => Q (.of .non) C2) | .none => False) | _ => False)
  | .none => False
theorem qe_dpop {pn : Pos} {jj} (ho : QE K X o to dO) (hi : QE K X i ti di) (m : M2 X o "pop" apos i (.Constant .none jj pn) cpos) : QE K X (.Call (.Attribute o "pop" apos) [i, .Constant .none jj pn] [] cpos) (tDPop2 to ti (tC .non)) (dDPop dO di) := ⟨pe_dpop2 ho.p hi.p pe_non m, fun W S C σ s QD Q q k =>
  ho.r W S C σ s _ _ q fun v x W1 C1 e1 s1 r1 q1 => by
    split at q1
    · rename_i l0 hl0
      obtain ⟨a, vs0, rfl, g1, g2⟩ := rdB_ok s1.m r1 hl0
      refine ⟨a, rfl, .inl ⟨vs0, .inl g1⟩, hi.r W1 S C1 σ s1 _ _ q1 fun u y W2 C2 e2 s2 r2 q2 => ?_⟩
      split at q2
      · split at q2
        · rename_i kk l hl
          obtain ⟨z, rfl, rfl⟩ := rep_str r2
          obtain ⟨a', vs, e, h1, h2⟩ := rdB_ok s2.m (r1.mono s1.m e2) hl
          cases e
          refine ⟨vs, .inr z, h1, rfl, fun w hw => ?_, fun hw => ?_⟩
          · rcases h2.val (z := z) with ⟨e1', e2'⟩ | ⟨w', d', e1', e2', e3'⟩
            · rw [hw] at e1'; cases e1'
            · rw [hw] at e1'
              cases e1'
              rw [e2'] at q2
              obtain ⟨a2, C3, e, g5, g6⟩ := setB_ok s2 (r1.mono s1.m e2) q2
              cases e
              obtain ⟨e3, s3⟩ := g6 _ (h2.drop (z := z))
              exact k.at ((e1.trans e2).trans e3) s3 (Rep.mono (e3.pers s2.m.wrws) e3') g5
          · rcases h2.val (z := z) with ⟨e1', e2'⟩ | ⟨w', d', e1', e2', e3'⟩
            · rw [e2'] at q2
              exact k.at (e1.trans e2) s2 .non q2
            · rw [hw] at e1'; cases e1'
        · exact q2.elim
      · exact q2.elim
    · exact q1.elim⟩
/-! d[k] = v -/
def dSubB (d1 d2 : DTE) : DTG := fun y S C k => d1 S C fun x C1 => d2 S C1 fun i C2 => frz y C2 fun d C3 => match rdB x C3, i with
  | .some l, .of (.str kk) => Z16 (l.length + 1) ∧ setB x C3 (putT l kk d) fun C4 => k S C4
  | _, _ => False
theorem refG_subB {d1 d2 : DTE} {t1 t2 : TE} (h1 : RefE K t1 d1) (h2 : RefE K t2 d2) : RefG K (gSub t1 t2 rSetD) (dSubB d1 d2) := fun W S C σ s v y QD Q ry q k =>
  h1 W S C σ s _ _ q fun o x W1 C1 e1 s1 r1 q1 => h2 W1 S C1 σ s1 _ _ q1 fun iv z W2 C2 e2 s2 r2 q2 => by
    obtain ⟨d, W3, C3, e3, hH, s3, r3, q3⟩ := frz_ok s2 ((ry.mono s.m e1).mono s1.m e2) q2
    split at q3
    · rename_i l kk hl
      obtain ⟨hz, q4⟩ := q3
      obtain ⟨z, rfl, rfl⟩ := rep_str r2
      have r1' := (r1.mono s1.m e2).mono s2.m e3
      obtain ⟨a, vs, rfl, g1, g2⟩ := rdB_ok s3.m r1' hl
      obtain ⟨a2, C4, e, g5, g6⟩ := setB_ok s3 r1' q4
      cases e
      obtain ⟨e4, s4⟩ := g6 _ (g2.put (z := z) r3)
      rw [← hH]
      exact ⟨a, _, rfl, DPut.k (k := .inr z) g1 (by have := ss; rw [g2.len]; omega), k _ _ _ _ ((e1.trans e2).trans (e3.trans e4)) s4 g5⟩
    · exact q3.elim
theorem qg_subB (hu : X.A.units + 64 < cLine) (ho : QE K X o to dO) (hi : QE K X i ti di)
    (ha : ∀ v, assign (.Subscript o i pos) X.env v = (do
      let ov ← holding [v] (eval o X.env)
      let iv ← holding [v, ov] (eval i X.env)
      standAt pos
      holding [v, ov, iv] (setItem ov iv v)
      release [v, ov, iv] []) := by intro _; rfl) : QG K X (.Subscript o i pos) (gSub to ti rSetD) (dSubB dO di) := ⟨pg_sub ho.p hi.p (set_dict (by omega)) ha, refG_subB ho.r hi.r⟩
theorem qg_sub (ho : QE K X o to dO) (hi : QE K X i ti di)
    (ha : ∀ v, assign (.Subscript o i pos) X.env v = (do
      let ov ← holding [v] (eval o X.env)
      let iv ← holding [v, ov] (eval i X.env)
      standAt pos
      holding [v, ov, iv] (setItem ov iv v)
      release [v, ov, iv] []) := by intro _; rfl) : QG K X (.Subscript o i pos) (gSub to ti rSetL) (dSub dO di) := ⟨pg_sub ho.p hi.p set_list ha, refG_sub ho.r hi.r⟩
/-! len, sorted, the field that is a dict -/
def dLenB : DRA := fun xs C Q => match xs with | [x] => (match rdB x C with | .some l => Q (.of (.int l.length)) C | .none => False) | _ => False
theorem cq_lenB : QC K X (.builtin "len") 1 (fun xs H Q => ∃ a kvs, xs = [V.ref a] ∧ H a = .some (.dK kvs) ∧ Q (.int kvs.length) H) dLenB := ⟨call_lenD, fun W S C σ st vs xs QD Q hlen r q k => by
  unfold dLenB at q
  split at q
  · split at q
    · rename_i l hl
      obtain ⟨v, rfl, r0⟩ := repVs1 r
      obtain ⟨a, us, rfl, h1, h2⟩ := rdB_ok st.m r0 hl
      refine ⟨a, us, rfl, h1, k.here st (.int _) ?_⟩
      rw [h2.len]; exact q
    · exact q.elim
  · exact q.elim⟩
/-- the keys, rising -/
def keysD (l : Kvs) : List (List Nat) := (l.map (·.1)).mergeSort fun a b => decide (a ≤ b)
def dSortB : DRA := fun xs C Q => match xs with | [x] => (match rdB x C with | .some l => l.length < 64 ∧ ∀ ys : List (List Nat), ys.Perm (l.map (·.1)) → ys.Pairwise (fun a b => ¬ b < a) → Q (.cel C.length) (C ++ [.lst (ys.map D.str)]) | .none => False) | _ => False
def dFldB (c f : Str) (d : DTE) : DTE := fun S C Q => d S C fun x C1 => match x with
  | .cel i => (match C1[i]? with | .some (.dob c' f' _) => (c' = c ∧ f' = f) ∧ Q (.sub i) C1 | _ => False)
  | _ => False
theorem qe_fldB {c f : Str} (hK : X.K = K) (hc : Cls K (He.ga K c)) (hn : NoAttr K (He.ga K c) f) (he : QE K X e te de) (hb : attributeBase e f X.env (eval e X.env) = eval e X.env) : QE K X (.Attribute e f pos) (tFld K te f) (dFldB c f de) :=
  ⟨pe_fldG hK he.p hb, fun W S C σ st QD Q q k => he.r W S C σ st _ _ q fun v x W1 C1 e1 s1 r1 q1 => by
  split at q1
  · rename_i i
    split at q1
    · rename_i c' f' kvs hC
      obtain ⟨⟨rfl, rfl⟩, q2⟩ := q1
      obtain ⟨a, fp, h1, rfl⟩ := r1
      obtain ⟨⟨d, dx, vs, e, ne, g0, g1, g2⟩, _⟩ := s1.m.cell i _ a fp hC h1 trivial
      subst e
      exact ⟨a, _, dx, _, .ref d, rfl, g0, hc, hn, by rw [List.lookup_cons]; simp, k _ (.sub i) W1 C1 e1 s1 ⟨a, d, h1, rfl⟩ q2⟩
    · exact q1.elim
  · exact q1.elim⟩
end
end Z

set_option Elab.async false
set_option linter.all false
set_option maxRecDepth 100000
set_option maxHeartbeats 4000000
/-! ### enumerate of a tuple -/
namespace Z
open PySem PySem.Spec PyProof.Rows L2
open PySem.Sem (wp)
open AutoSeq1 (wpAny_loadPart')
theorem meets_enT (l : Addr) (items : Array Value) (n : Nat) (dct : Option Addr) (sl : Array (Option Value)) :
    Meets (Builtin.«enumerate.__new__» ⟨[.type "enumerate", .ref l], []⟩) (fun _ R s => s.heap.get? l = some { cls := .type "tuple", dict := dct, data := .seq items n, slots := sl } ∧
      R (.ok (.ret (.ref (s.heap.push { cls := .type "tuple_iterator", data := .fields #[.ref l, .int 0 0] }).objs.size)))
        { s with heap := (s.heap.push { cls := .type "tuple_iterator", data := .fields #[.ref l, .int 0 0] }).push { cls := .type "enumerate", data := .fields #[.none, .bool false, .ref s.heap.objs.size, rawInt 0, .none, .none] } }) :=
  .of_wp fun prog w A R s h => by
    obtain ⟨hp, g, d, tk, os⟩ := s; obtain ⟨hl, h⟩ := h
    have hsub := sub_enumerate
    have hL : Heap.IsTuple (Shared.heap ⟨hp, g, d, tk, os⟩) l items := ⟨_, hl, rfl, n, rfl⟩
    wp_walk using wpAny_loadPart' hl
    refine wpAny_stack_any fun st => wpAny_pure ?_
    split
    · rename_i c _ _ _ _ _
      cases (c == Value.type "enumerate")
      · wp_walk using wpAny_loadPart' hl, wpAny_pyIter_tuple hL
        exact ⟨_, rfl, h⟩
      · wp_walk using wpAny_loadPart' hl, wpAny_pyIter_tuple hL
        exact ⟨_, rfl, h⟩
    · wp_walk using wpAny_loadPart' hl, wpAny_pyIter_tuple hL
      exact ⟨_, rfl, h⟩
section
variable {prog : Program} {w : World} {A : Around} {E : Value → Shared → Prop} {s : Shared}
theorem call_enT {l : Addr} {items : Array Value} {Q : Value → Shared → Prop} (hL : s.heap.IsTuple l items)
    (h : ∀ h', IsEnum h' (s.heap.objs.size + 1) s.heap.objs.size 0 .none → h'.IsTupleIter s.heap.objs.size l 0 → h'.objs.size = s.heap.objs.size + 2 →
      (∀ b o, s.heap.get? b = some o → h'.get? b = some o) → Q (.ref (s.heap.objs.size + 1)) { s with heap := h' }) :
    wpAny (model prog w) A (call (.type "enumerate") [.ref l]) Q E s := by
  obtain ⟨⟨c, dct, dt, sl⟩, hl, hc, n, hd⟩ := hL
  replace hc : c = .type "tuple" := hc
  replace hd : dt = .seq items n := hd
  subst hc hd
  refine callType_new F.called_enumerate (by decide) (F.typeCall_enumerate_1 _) (F.newCall_enumerate_1 _) (fun obj => F.args_object_init_2 obj _) F.entry_enumerate_new
    (meets_enT l items n dct sl) ⟨hl, ?_⟩
  have hz : (s.heap.push { cls := .type "tuple_iterator", data := .fields #[.ref l, .int 0 0] }).objs.size = s.heap.objs.size + 1 := Heap.size_push ..
  show _ ∧ _
  rw [hz]
  have he : IsEnum ((s.heap.push { cls := .type "tuple_iterator", data := .fields #[.ref l, .int 0 0] }).push
      { cls := .type "enumerate", data := .fields #[.none, .bool false, .ref s.heap.objs.size, rawInt 0, .none, .none] }) (s.heap.objs.size + 1) s.heap.objs.size 0 .none := by
    have := Heap.get?_push_size (s.heap.push { cls := .type "tuple_iterator", data := .fields #[.ref l, .int 0 0] })
      (o := { cls := .type "enumerate", data := .fields #[.none, .bool false, .ref s.heap.objs.size, rawInt 0, .none, .none] }) rfl
    rw [hz] at this; exact this
  refine ⟨⟨_, he, rfl⟩, h _ he ⟨_, Heap.get?_push_of_some _ (Heap.get?_push_size _ rfl), rfl, rfl⟩ (by rw [Heap.size_push, hz]) fun b o x => Heap.get?_push_of_some _ (Heap.get?_push_of_some _ x)⟩
end
theorem draws_tup {prog : Program} {w : World} {A : Around} {it a : Addr} {items : List Value} (hh : A.handled = none) (hne : a ≠ it) :
    Draws prog w A it [it, a] items.length (fun i x => items[i]? = some x) (fun i h => h.IsTupleIter it a i ∧ h.IsTuple a items.toArray) where
  live := fun i h st => by obtain ⟨⟨o, e, _⟩, _⟩ := st; exact ⟨o, e⟩
  frame := fun i h h' st k => ⟨st.1.at fun o e => k it (by simp) o e, by
    obtain ⟨o, e, r⟩ := st.2
    exact ⟨o, k a (by simp) o e, r⟩⟩
  item := fun i s Q E hi st hQ => by
    obtain ⟨h1, h2⟩ := st
    refine RZ.nextOf_tuple_item h1 h2 (x := items[i]) (by simp [hi]) fun h' h1' sb => hQ _ h' s.toks (List.getElem?_eq_getElem hi) ⟨h1', ?_⟩ sb
    obtain ⟨o, e, r⟩ := h2
    exact ⟨o, (sb.2 a hne).trans e, r⟩
  done := fun s Q E st hE => by
    obtain ⟨h1, h2⟩ := st
    exact RZ.nextOf_tuple_end hh h1 h2 (by simp) fun h' e x y => hE h' e x y
/-- the tuple at a, each item in a new pair -/
def IteT (K : PySem.W.Frag) (a : Addr) : It :=
  ⟨fun i H => ∃ (xs : List V) (x : V), SqT K H a xs ∧ xs[i]? = some x, fun i H v H' => ∃ T x, v = .ref T ∧ H T = none ∧ H' = upd H T (.tup [.int (i : Nat), x]) ∧ ∀ xs, SqT K H a xs → xs[i]? = some x, fun i H => ∃ xs : List V, SqT K H a xs ∧ xs.length = i⟩
theorem turn_enT {P : Program} {w : World} {K : PySem.W.Frag} {elts : List Expr} {kk : Nat} {tpos : Pos} (a e it : Addr) :
    Turn P w K (.Tuple elts kk tpos) (IteT K a) [e, it] e (fun i h => (∃ old, IsEnum h e it ((i : Nat) : Int) old) ∧ h.IsTupleIter it a i ∧ e ≠ it) where
  mem := by simp
  obj := fun i h st b hb => by
    obtain ⟨⟨old, he⟩, ⟨o, ho, hc, hd⟩, _⟩ := st
    have e' : b = e ∨ b = it := by simpa using hb
    rcases e' with z | z
    · rw [z]; exact ⟨_, he, fun v q => nomatch q⟩
    · rw [z]; exact ⟨o, ho, fun v q => by rw [hd] at q; cases q⟩
  keep := fun i h h' st k => let ⟨⟨old, he⟩, hi, hne⟩ := st; ⟨⟨old, k e (by simp) _ he⟩, hi.at fun o q => k it (by simp) o q, hne⟩
  item := by
    intro X hP hw hK hc i pins s σ H E I hf st hg
    subst hP hw hK
    obtain ⟨⟨old, he⟩, hit, hne⟩ := st
    obtain ⟨xs, x, hq, hx⟩ := hg
    obtain ⟨its, rv, p, hz⟩ := I.tuple hq
    obtain ⟨u, hu, ru⟩ := rv.get hx
    have hel : e < s.heap.objs.size := Heap.lt_size he
    have hil : it < s.heap.objs.size := by obtain ⟨_, q, _⟩ := hit; exact Heap.lt_size q
    have hai : a ≠ it := fun z => by
      obtain ⟨o1, g1, c1, _⟩ := hit
      obtain ⟨o2, g2, c2, _⟩ := p
      rw [z, g1] at g2; cases g2
      rw [c1] at c2
      injection c2 with z
      exact absurd z (by decide)
    have hea : e ≠ a := fun z => by
      obtain ⟨o2, g2, c2, _⟩ := p
      rw [← z, he] at g2; cases g2
      injection c2 with z
      exact absurd z (by decide)
    refine wpAny_pyNext_enum_itemD (draws_tup (A := X.A.in1) (items := its) (I.ok.hd hc) hai) he ⟨hit, p⟩ (by rw [← rv.length]; exact (List.getElem?_eq_some_iff.mp hx).1) hne (by simp [hne, hea]) fun u' h' tk hu' ho hit' hT hsz hk => ?_
    rw [hu] at hu'
    cases hu'
    refine ⟨_, rfl, wpAny_letOwnedTupleGo_enum (s := { s with heap := h', toks := tk + 1 }) ho fun h'' he' sb => ?_⟩
    have hT2 : h''.get? s.heap.objs.size = some { cls := .type "tuple", data := .seq #[.int i tk, u] } := (sb.2 _ (Nat.ne_of_gt hel)).trans hT
    have new : ObjOk X.prog X.w (upd H s.heap.objs.size (.tup [.int (i : Nat), x])) h'' s.heap.objs.size (.tup [.int (i : Nat), x]) :=
      ⟨by show 2 ≤ sizeLine; decide, [.int i tk, u], .cons ⟨_, rfl⟩ (.cons ru .nil), ⟨_, hT2, rfl, _, rfl⟩⟩
    have I1 : Inv X pins σ (upd H s.heap.objs.size (.tup [.int (i : Nat), x])) { s with heap := h'', toks := tk + 1 } :=
      I.turnedNew (ch := [e, it]) (fun b ob hb q => (sb.2 b (fun z => hb (by simp [z]))).trans (hk b ob (fun z => hb (by simp [z])) (fun z => hb (by simp [z])) q)) hf (Nat.le_refl _) new
    refine ⟨.ref s.heap.objs.size, _, I1, rfl, ⟨_, x, rfl, I.hok.fresh (Nat.le_refl _), rfl, fun ys hy => by rw [I.tuple_inj hy hq]; exact hx⟩, ⟨⟨u, ?_⟩, hit'.1.at fun o q => (sb.2 it (Ne.symm hne)).trans q, hne⟩, fun b hb => ?_⟩
    · have e1 : ((i + 1 : Nat) : Int) = (i : Int) + 1 := by omega
      rw [e1]; exact he'
    · have hb' : b < s.heap.objs.size := by
        have e' : b = e ∨ b = it := by simpa using hb
        rcases e' with z | z
        · rw [z]; exact hel
        · rw [z]; exact hil
      rw [upd_ne (Nat.ne_of_lt hb')]
      exact (hf b hb).1
  done := by
    intro X hP hw hK hc i pins s σ H E I hf st hg
    subst hP hw hK
    obtain ⟨⟨old, he⟩, hit, hne⟩ := st
    obtain ⟨xs, hq, hx⟩ := hg
    obtain ⟨its, rv, p, hz⟩ := I.tuple hq
    obtain ⟨f0, f1, f2, f3, f4, f5⟩ := hf it (by simp)
    have hai : a ≠ it := fun z => by
      obtain ⟨o1, g1, c1, _⟩ := hit
      obtain ⟨o2, g2, c2, _⟩ := p
      rw [z, g1] at g2; cases g2
      rw [c1] at c2
      injection c2 with z
      exact absurd z (by decide)
    have hl := rv.length
    have e0 : its.length = i := by omega
    exact wpAny_pyNext_enum_endD (draws_tup (A := X.A.in1) (items := its) (I.ok.hd hc) hai) he ⟨by rw [e0]; exact hit, p⟩ fun h' eb => ⟨rfl, I.turned (t' := s.toks) (fun b o hb q => eb b o hb q) f0 f1 f3 f4 f5⟩
  self := fun A i s Q E st h => let ⟨⟨_, he⟩, _⟩ := st; wpAny_pyIter_enum he h
def iEnT (K : PySem.W.Frag) (te : TE) : TI := fun σ H R => te σ H fun v H1 => ∃ a xs, v = .ref a ∧ SqT K H1 a xs ∧ R (IteT K a) H1
def iEnA (K : PySem.W.Frag) (ta : TA) : TI := fun σ H R => ta σ H fun vs H1 => ∃ a xs, vs = [.ref a] ∧ ((SqL K H1 a xs ∧ R (Ite K a) H1) ∨ (SqT K H1 a xs ∧ R (IteT K a) H1))
theorem pi_enA {X : Cx} {e : Expr} {ta : TA} {p pos tpos : Pos} {elts : List Expr} {kk : Nat} (hg : Gl X "enumerate") (hm : X.mg "enumerate" = none) (ha : PA X [e] ta) (hs : starEach [e] X.env = [(false, eval e X.env)] := by rfl) :
    PI X (.Tuple elts kk tpos) (.Call (.Name "enumerate" p) [e] [] pos) (iEnA X.K ta) := by
  refine ⟨fun pins s σ H R I h => ?_⟩
  refine Call_ (ld_blt I hg hm boot_enumerate (PyProof.Rows.callWith_type1 (thn (ha.run pos pins s σ H _ I h) fun us s1 ⟨vs, H1, I1, r1, q1⟩ => ?_) hs rfl))
  obtain ⟨a, xs, ex, q⟩ := q1
  subst ex
  cases r1 with
  | cons r rr =>
    cases rr
    cases r
    have fp : ∀ b ∈ [s1.heap.objs.size + 1, s1.heap.objs.size], s1.heap.objs.size ≤ b := fun b hb => by
      have e' : b = s1.heap.objs.size + 1 ∨ b = s1.heap.objs.size := by simpa using hb
      rcases e' with z | z
      · rw [z]; exact Nat.le_add_right _ _
      · rw [z]; exact Nat.le_refl _
    rcases q with ⟨hq, q⟩ | ⟨hq, q⟩
    · obtain ⟨its, rv, p', hz⟩ := I1.list hq
      refine call_enumerate_list p'.isList fun h' he hit hsz hk => wpAny_pyIter_enum he ?_
      have I2 : Inv X pins σ H1 { s1 with heap := h' } := I1.kept (t' := s1.toks) hk
      exact ⟨s1.heap.objs.size + 1, [s1.heap.objs.size + 1, s1.heap.objs.size], _, _, H1, rfl, I2, turn_enum a (s1.heap.objs.size + 1) s1.heap.objs.size, ⟨⟨.none, he⟩, hit, Nat.succ_ne_self _⟩, fun b hb => I1.fpOk (fp b hb) (I1.hok.fresh (fp b hb)), q⟩
    · obtain ⟨its, rv, p', hz⟩ := I1.tuple hq
      refine call_enT (show s1.heap.IsTuple a its.toArray from p') fun h' he hit hsz hk => wpAny_pyIter_enum he ?_
      have I2 : Inv X pins σ H1 { s1 with heap := h' } := I1.kept (t' := s1.toks) hk
      exact ⟨s1.heap.objs.size + 1, [s1.heap.objs.size + 1, s1.heap.objs.size], _, _, H1, rfl, I2, turn_enT a (s1.heap.objs.size + 1) s1.heap.objs.size, ⟨⟨.none, he⟩, hit, Nat.succ_ne_self _⟩, fun b hb => I1.fpOk (fp b hb) (I1.hok.fresh (fp b hb)), q⟩
/-! enumerate over trees -/
section
variable {K : PySem.W.Frag} [Gd K] {X : Cx} {t : TA} {dt : DTA} {pos : Pos}
def iqEa (d : DTA) : DTI := fun S C Q => d S C fun xs C1 => match xs with
  | [x] => (match rdT x with | some l => Q (enumD 0 l) (fun _ => True) C1 | none => (match rdL x C1 with | some l => Q (enumD 0 l) (fun C => rdL x C = some l) C1 | none => False))
  | _ => False
theorem qi_enumA {e1 : Expr} {elts : List Expr} {kk : Nat} {tpos p : Pos} (hK : X.K = K) (hg : Gl X "enumerate") (hm : X.mg "enumerate" = none) (ha : QA K X [e1] 1 t dt) (hs : starEach [e1] X.env = [(false, eval e1 X.env)] := by rfl) : QI K X (.Tuple elts kk tpos) (.Call (.Name "enumerate" p) [e1] [] pos) (iEnA K t) (iqEa dt) := ⟨by subst hK; exact pi_enA hg hm ha.p hs, fun W S C σ st QD R q k => ha.r W S C σ st _ _ q fun vs xs W1 C1 hln e1 s1 r1 q1 => by
  split at q1
  · rename_i x
    obtain ⟨v, rfl, r0⟩ := repVs1 r1
    split at q1
    · rename_i l hl
      obtain ⟨p, us, rfl, h1, h2⟩ := rdT_ok r0 hl
      refine ⟨p, us, rfl, .inr ⟨h1, k _ W1 C1 _ _ e1 s1 (fun W2 C2 e2 m2 _ => ?_) q1⟩⟩
      obtain ⟨p', us', e, h3, h4⟩ := rdT_ok (r0.mono s1.m e2) hl
      cases e
      rw [enumD_len]
      refine ⟨fun i hi => ⟨⟨us', us'[i]'(by rw [h4.len]; exact hi), h3, List.getElem?_eq_getElem _⟩, fun x H' hy => ?_⟩, us', h3, by rw [h4.len]⟩
      obtain ⟨T, y, rfl, hT, rfl, hy⟩ := hy
      obtain ⟨d, hd, rd⟩ := h4.at' (hy us' h3)
      refine ⟨W2.new T _, Ext.new hT, rfl, m2.new hT, .tup [.int (i : Nat), d], ?_, .tup _ _ _ upd_same (m2.fresh hT).1 ?_⟩
      · have := enumD_at (k := 0) hd
        rw [Nat.zero_add] at this; exact this
      · exact .cons _ _ _ _ (.int _) (.one (Rep.mono ((Ext.new hT).pers m2.wrws) rd))
    · split at q1
      · rename_i l hl
        obtain ⟨p, us, rfl, h1, h2⟩ := rdL_ok s1.m r0 hl
        refine ⟨p, us, rfl, .inl ⟨SqL.of h1, k _ W1 C1 _ _ e1 s1 (fun W2 C2 e2 m2 hok => ?_) q1⟩⟩
        obtain ⟨p', us', e, h3, h4⟩ := rdL_ok m2 (r0.mono s1.m e2) hok
        cases e
        rw [enumD_len]
        refine ⟨fun i hi => ⟨⟨us', us'[i]'(by rw [h4.len]; exact hi), SqL.of h3, List.getElem?_eq_getElem _⟩, fun x H' hy => ?_⟩, us', SqL.of h3, by rw [h4.len]; exact Nat.le_refl _⟩
        obtain ⟨T, y, rfl, hT, rfl, hy⟩ := hy
        obtain ⟨d, hd, rd⟩ := h4.at' (hy us' (SqL.of h3))
        refine ⟨W2.new T _, Ext.new hT, rfl, m2.new hT, .tup [.int (i : Nat), d], ?_, .tup _ _ _ upd_same (m2.fresh hT).1 ?_⟩
        · have := enumD_at (k := 0) hd
          rw [Nat.zero_add] at this; exact this
        · exact .cons _ _ _ _ (.int _) (.one (Rep.mono ((Ext.new hT).pers m2.wrws) rd))
      · exact q1.elim
  · exact q1.elim⟩
end
end Z

set_option Elab.async false
set_option linter.all false
set_option maxRecDepth 100000
set_option maxHeartbeats 4000000
/-! ### instances that hold one dict: made, their methods -/
namespace Z
open PySem PySem.Spec PyProof.Rows L2
/-- X(..) of a class whose __init__ makes one dict f and may fill it -/
def initSp (K : PySem.W.Frag) (c f : Str) (n : Nat) (d : List DV → (Kvs → Prop) → Prop) : Sp := fun vs H Q _ => ∃ a dx vs' W xs, vs = .ref a :: vs' ∧ vs'.length = n ∧ W.H a = none ∧ W.H dx = none ∧ dx ≠ a ∧ H = L2.upd (L2.upd W.H dx (.own a)) a (.ins (He.ga K c) dx []) ∧ W.wr = [] ∧ W.pv = [] ∧ W.As = [] ∧ Mem K W [] ∧ RepVs K W vs' xs ∧
  ∃ post : Kvs → Prop, d xs post ∧ ∀ kvs, post kvs → ∀ W', Ext W W' → Mem K W' [.dob c f kvs] → (∃ dd, W'.As = [(a, [a, dd])]) → Q .non W'.H
structure QI0 (K : PySem.W.Frag) [Gd K] (X : Cx) (st : List Stmt) (f : Str) (t : TS) (d : DTS) : Prop where
  p : PSs X st (tSeq (sFld K (tVar 0) tDNewK f) t)
  r : RefS K t d
section
variable {K : PySem.W.Frag} [Gd K] {X : Cx} {o : Expr} {f c : Str} {pos pos' : Pos} {rest : List Stmt} {t : TS} {d : DTS}
theorem qi0 {x : Str} {p2 p3 : Pos} (hK : X.K = K) (hN : X.N[0]? = some x) (hv : Vis X.env.scope x) (h2 : QSs K X rest t d) (hs : swapsWith (.Dict [] [] p2) (some (.Attribute (.Name x p3) f pos')) pos.line X.env = pure false := by rfl) (hd : (x == ("__debug__" : Str)) = false := by decide) (hcd : (x == ("__classdict__" : Str)) = false := by decide) :
    QI0 K X (.Assign [.Attribute (.Name x p3) f pos'] (.Dict [] [] p2) pos :: rest) f t d := ⟨by subst hK; exact pss_cons (ps_fld (pe_var hN hv hd hcd) pe_dnewK hs) h2.p, h2.r⟩
theorem QI0.nox {st : List Stmt} (h : QI0 K X.nox st f t d) : QI0 K X st f t d := ⟨PSs.nox h.p, h.r⟩
end
theorem fn_dI {P : Program} {w : World} {K : PySem.W.Frag} {mg : Str → Option Value} {base : Heap} {x qual : Str} {params : Arguments} {body : List Stmt} {scope : Scope} {dvs : List V} {kws : List (Str × V)} {f : Addr} {fd : FuncData} {CX : CXT} {N ps : List Str} {k n : Nat} {c fl : Str} {d : List DV → (Kvs → Prop) → Prop}
    (F : FunD K x qual params body scope dvs kws f fd) (S : FnScope N ps scope) (hps : ps.length = n + 1) (hc : Cls K (He.ga K c)) (hna : NoAttr K (He.ga K c) fl)
    (hbody : ∀ (cdv : Value) (A : Around) (outer : List Env) (s : Shared) (H : Hp) (E : XK), Room k (A.deeper (envOfC qual scope s.heap.objs.size f cdv)) →
      ∃ t dt, @QI0 K (gd0 K) (cxOf CX P w K mg base N qual scope f cdv A outer s H E) body fl t dt ∧ ∀ xs post, xs.length = n → d xs post → dt { nx := fun _ C' => ∃ kvs C'', C' = .dob c fl kvs :: C'' ∧ post kvs, rt := fun _ _ => False } (startD N.length (.cel 0 :: xs)) [.dob c fl []]) :
    FnOk P w K mg base CX (k + 1) f fd ps (initSp K c fl n d) := by
  letI : Gd K := gd0 K
  refine F.ok S (fun vs H Q E h => by obtain ⟨a, dx, vs', W, xs, rfl, hl, _⟩ := h; rw [hps, List.length_cons, hl]) fun cdv A outer s H vs Q E hr h => ?_
  obtain ⟨t, dt, q, hd⟩ := hbody cdv A outer s H E hr
  refine ⟨_, q.p, ?_⟩
  obtain ⟨a, dx, vs', W, xs, rfl, hl, ha, hdx, hne, rfl, hw, hpv, hAs, m, r, post, hq, hpost⟩ := h
  have hps0 : 0 < ps.length := by omega
  intro p hp
  refine ⟨.ref a, ?_, a, _, dx, [], rfl, ?_, hc, hna, by simp, ?_⟩
  · unfold L2.start; simp
  · have hpa : a ≠ p := fun z => by rw [← z, upd_same] at hp; cases hp
    rw [upd_ne hpa, upd_same]
  · rw [putF_nil]
    have hpa : p ≠ a := fun z => by rw [z, upd_same] at hp; cases hp
    have hpd : p ≠ dx := fun z => by rw [z, upd_ne hne, upd_same] at hp; cases hp
    have hpW : W.H p = none := by rw [upd_ne hpa, upd_ne hpd] at hp; exact hp
    let W5 : Wd := { H := L2.upd (L2.upd (L2.upd (L2.upd W.H dx (.own a)) a (.ins (He.ga K c) dx [])) p (.dK [])) a (.ins (He.ga K c) dx [(fl, .ref p)]), ws := p :: a :: W.ws, wr := [a, p], pv := [], As := [(a, [a, p])] }
    have at5 : ∀ b, b ≠ a → b ≠ p → b ≠ dx → W5.H b = W.H b := fun b h1 h2 h3 => by
      show L2.upd _ a _ b = _
      rw [upd_ne h1, upd_ne h2, upd_ne h1, upd_ne h3]
    have a5 : W5.H a = some (.ins (He.ga K c) dx [(fl, .ref p)]) := upd_same
    have p5 : W5.H p = some (.dK []) := by
      show L2.upd _ a _ p = _
      rw [upd_ne hpa, upd_same]
    have ap : ∀ b, W.H b ≠ none → b ≠ a ∧ b ≠ p ∧ b ≠ dx := fun b h => ⟨fun z => h (z ▸ ha), fun z => h (z ▸ hpW), fun z => h (z ▸ hdx)⟩
    have ex : Ext W W5 := by
      refine ⟨fun b o h _ => ?_, fun b h => ?_, fun b h => ?_, fun b h _ _ => List.mem_cons_of_mem _ (List.mem_cons_of_mem _ h), fun b h => ?_, hpv.symm, [(a, [a, p])], by rw [hAs]; rfl⟩
      · obtain ⟨h1, h2, h3⟩ := ap b (by rw [h]; simp)
        rw [at5 b h1 h2 h3]; exact h
      · obtain ⟨h1, h2, h3⟩ := ap b h
        rw [at5 b h1 h2 h3]; exact h
      · rcases List.mem_cons.mp h with z | z
        · exact .inr (z ▸ hpW)
        · rcases List.mem_cons.mp z with z | z
          · exact .inr (z ▸ ha)
          · exact .inl z
      · rcases List.mem_cons.mp h with z | z
        · exact .inr (z ▸ ha)
        · rw [List.mem_singleton] at z
          exact .inr (z ▸ hpW)
    have m5 : Mem K W5 [.dob c fl []] := by
      refine ⟨fun b h => ?_, fun b h => by simp [W5] at h, fun b _ h => by simp [W5] at h, fun b h => ?_, rfl, fun i dc a' fp h1 h2 _ => ?_, fun i j dc dc' a1 fp1 a2 fp2 hij h1 _ h2 _ _ _ => ?_⟩
      · rcases List.mem_cons.mp h with z | z
        · rw [z]; exact List.mem_cons_of_mem _ List.mem_cons_self
        · rw [List.mem_singleton] at z
          rw [z]; exact List.mem_cons_self
      · rcases List.mem_cons.mp h with z | z
        · rw [z, p5]; simp
        · rcases List.mem_cons.mp z with z | z
          · rw [z, a5]; simp
          · exact ex.there b (m.dom b z)
      · cases i with
        | zero =>
          cases (Option.some.inj h1 : DC.dob c fl [] = dc)
          cases (Option.some.inj h2 : (a, [a, p]) = (a', fp))
          exact ⟨⟨p, dx, [], rfl, hpa, a5, p5, .nil⟩, fun b hb => hb⟩
        | succ i => simp at h1
      · cases i with
        | zero =>
          cases j with
          | zero => exact absurd rfl hij
          | succ j => simp at h2
        | succ i => simp at h1
    have r5 : RepVs K W5 (.ref a :: vs') (.cel 0 :: xs) := .cons _ _ _ _ ⟨a, [a, p], rfl, rfl⟩ (r.mono m ex)
    refine q.r W5 (startD N.length (.cel 0 :: xs)) _ (L2.start N (.ref a :: vs')) ⟨m5, slo_start r5, trivial⟩ _ _ (hd xs post (by rw [← r.len]; exact hl) hq) ⟨fun W' S' C' σ' e s' q' => ?_, fun W' C' v x e m' r' q' => q'.elim, fun W' S' C' σ' e s' q' => q'.elim, fun W' S' C' σ' e s' q' => q'.elim⟩
    obtain ⟨kvs, C'', rfl, hk⟩ := q'
    have e2 : Ext W { W' with As := W'.As.take 1 } := by
      have := (ex.trans e)
      obtain ⟨mo, hmo⟩ := e.as
      refine ⟨this.keep, this.there, this.wsn, this.wsk, this.wrn, this.pv, [(a, [a, p])], ?_⟩
      show W'.As.take 1 = _
      rw [hmo, hAs]; rfl
    have m2 := s'.m.cut (n := 1)
    refine hpost kvs hk { W' with As := W'.As.take 1 } e2 m2 ⟨p, ?_⟩
    obtain ⟨mo, hmo⟩ := e.as
    show W'.As.take 1 = _
    rw [hmo]; rfl
/-- the caller -/
def dMkD (c f : Str) (mds : List Md) (d : List DV → (Kvs → Prop) → Prop) (dds : List DV) (dt : DTA) : DTE := fun S C Q => dt S C fun xs C1 => prep mds (xs ++ dds) C1 [] [] fun ys is bs C2 => is = [] ∧ d ys fun kvs => Q (.cel C2.length) (C2 ++ [.dob c f kvs])
def dMkDK (c f : Str) (mds : List Md) (d : List DV → (Kvs → Prop) → Prop) (g : List DV → List DV → List DV) (dt dk : DTA) : DTE := fun S C Q => dt S C fun xs C1 => dk S C1 fun zs C2 => prep mds (g xs zs) C2 [] [] fun ys is bs C3 => is = [] ∧ d ys fun kvs => Q (.cel C3.length) (C3 ++ [.dob c f kvs])
section
variable {K : PySem.W.Frag} [Gd K] {X : Cx} {CX : CXT} {k j n m : Nat} {c f ms : Str} {d : List DV → (Kvs → Prop) → Prop} {mds : List Md} {dvs : List V} {dds : List DV} {p pos apos : Pos} {e o : Expr} {es : List Expr} {te : TE} {de : DTE} {t tk : TA} {dt dk : DTA} {E : XK} {kws : List Keyword} {ks : List Str} {gV : List V → List V → List V} {gD : List DV → List DV → List DV}
theorem mkD_ok {W1 : Wd} {S : Sl} {C1 : Cs} {σ : L2.St} {vs : List V} {xs : List DV} {QD : DV → Cs → Prop} {Q : VK} (s1 : Sta K W1 S C1 σ) (r1 : RepVs K W1 vs xs) (hn : vs.length = n) (q1 : prep mds xs C1 [] [] fun ys is bs C2 => is = [] ∧ d ys fun kvs => QD (.cel C2.length) (C2 ++ [.dob c f kvs]))
    (k : KV K W1 S σ QD Q) : ∀ a dx, W1.H a = none → W1.H dx = none → dx ≠ a → initSp K c f n d (.ref a :: vs) (L2.upd (L2.upd W1.H dx (.own a)) a (.ins (He.ga K c) dx [])) (fun v H2 => v = .non ∧ Q (.ref a) H2) E := fun a dx h1 h2 h3 => by
  obtain ⟨zs, is, bs, C2, W2, e2, hH, s2, nd, ry, hi, q2⟩ := prep_ok s1 List.nodup_nil r1 (.nil (K := K) (W := W1) (C := C1) (is := []) (bs := [])) q1
  subst hi
  obtain ⟨mi, ti⟩ := inW_mem s2.m List.nodup_nil
  refine ⟨a, dx, vs, inW W2 C2 [], zs, rfl, hn, by show W2.H a = none; rw [hH]; exact h1, by show W2.H dx = none; rw [hH]; exact h2, h3, by show _ = L2.upd (L2.upd W2.H _ _) _ _; rw [hH], rfl, rfl, rfl, mi, ry.inW s2.m (fun b _ z => by simp at z), _, q2, fun kvs hp W' e' m' hA => ⟨rfl, ?_⟩⟩
  obtain ⟨dd, hA⟩ := hA
  exact ret_ok (r := .cel 0) s2 List.nodup_nil e' m' ⟨a, [a, dd], by rw [hA]; rfl, rfl⟩ (show retC [] C2 [.dob c f kvs] (.cel 0) QD from ⟨rfl, hp⟩) fun v x W3 C3 e3 s3 r3 q3 => k v x W3 C3 (e2.trans e3) s3 r3 q3
theorem qmkD (h : Maker X.prog X.w K X.mg X.base CX k c (initSp K c f n d) dvs) (hd : ∀ W, RepVs K W dvs dds) (hr : Room j X.A) (hk : k + 1 ≤ j) (hx : Passes CX X E) (hK : X.K = K) (hg : Gl X c) (ha : QA K X (e :: es) m t dt) (hn : m + dds.length = n := by rfl)
    (hdb : (c == ("__debug__" : Str)) = false := by decide) (he : starEach (e :: es) X.env = (false, eval e X.env) :: starEach es X.env := by rfl) (hpl : (backTo pos (starEach es X.env)).any (·.1) = false := by rfl) :
    QE K X (.Call (.Name c p) (e :: es) [] pos) (tMake (He.ga K c) (initSp K c f n d) dvs E t) (dMkD c f mds d dds dt) := ⟨by subst hK; exact pmk h hr hk hx hg ha.p hdb he hpl, fun W S C σ s QD Q q k =>
  ha.r W S C σ s _ _ q fun vs xs W1 C1 hl e1 s1 r1 q1 => mkD_ok s1 (r1.app (hd W1)) (by rw [List.length_append, hl, (hd W1).len]; exact hn) q1 (KV.ext k e1)⟩
theorem qmkD0 (h : Maker X.prog X.w K X.mg X.base CX k c (initSp K c f n d) dvs) (hd : ∀ W, RepVs K W dvs dds) (hr : Room j X.A) (hk : k + 1 ≤ j) (hx : Passes CX X E) (hK : X.K = K) (hg : Gl X c) (hn : 0 + dds.length = n := by rfl)
    (hdb : (c == ("__debug__" : Str)) = false := by decide) :
    QE K X (.Call (.Name c p) [] [] pos) (tMake (He.ga K c) (initSp K c f n d) dvs E tNil) (dMkD c f mds d dds dNil) := ⟨by subst hK; exact pmk0 h hr hk hx hg hdb, fun W S C σ s QD Q q k =>
  mkD_ok s (hd W) (by simpa [(hd W).len] using hn) q k⟩
/-! methods of a cell -/
def cellI : DC → Option (Str × Str)
  | .dob c f _ => some (c, f)
  | _ => none
def dMethC (c ms : Str) (mds : List Md) (d : DSp) (dds : List DV) (de : DTE) (dt : DTA) : DTE := fun S C Q => de S C fun x C1 => match x with
  | .cel i => (match C1[i]? with | some (.dob c' f' _) => (c' = c ∧ f' ≠ ms) ∧ dt S C1 fun xs C2 => callD mds d (.cel i :: (xs ++ dds)) C2 Q | _ => False)
  | _ => False
theorem refE_methC {d : DSp} (he : RefE K te de) (ha : RefA K m t dt) (hd : ∀ W, RepVs K W dvs dds) (hn : m + dds.length + 1 = n) : RefE K (tMeth (He.ga K c) ms (rawSp K n d) dvs E te t) (dMethC c ms mds d dds de dt) := fun W S C σ s QD Q q k =>
  he W S C σ s _ _ q fun v x W1 C1 e1 s1 r1 q1 => by
    split at q1
    · rename_i i
      split at q1
      · rename_i c' f' kvs hC
        obtain ⟨⟨rfl, hf⟩, q1⟩ := q1
        have r1' := r1
        obtain ⟨a, fp, h1, rfl⟩ := r1
        obtain ⟨⟨dd, dx, us, e, ne, g0, g1, g2⟩, _⟩ := s1.m.cell i _ a fp hC h1 trivial
        refine ⟨a, dx, _, rfl, g0, by rw [List.lookup_cons, beq_eq_false_iff_ne.mpr (Ne.symm hf)]; rfl, ha W1 S C1 σ s1 _ _ q1 fun vs xs W2 C2 hl e2 s2 r2 q2 => ?_⟩
        exact call_ok s2 (.cons _ _ _ _ (r1'.mono s1.m e2) (r2.app (hd W2))) (by rw [List.length_cons, List.length_append, hl, (hd W2).len]; exact hn) q2 (KV.ext k (e1.trans e2))
      · exact q1.elim
    · exact q1.elim
theorem qmtC {d : DSp} {pl : Sem Bool} (h : MethC X.prog X.w K X.mg X.base CX k c ms (rawSp K n d) dvs) (hd : ∀ W, RepVs K W dvs dds) (hr : Room j X.A) (hk : k ≤ j) (hx : Passes CX X E) (hK : X.K = K) (ho : QE K X o te de) (ha : QA K X (e :: es) m t dt) (hn : m + dds.length + 1 = n := by rfl)
    (hst : starEach (e :: es) X.env = (false, eval e X.env) :: starEach es X.env := by rfl) (hpl : (backTo pos (starEach es X.env)).any (·.1) = false := by rfl)
    (ht : eval (.Call (.Attribute o ms apos) (e :: es) [] pos) X.env = (do
      let ov ← eval o X.env
      standAt apos.atName
      let (f, first) ← holding [ov] (getMethod ov ms pl)
      callWith pos f first (backTo pos (starEach (e :: es) X.env)) (backToKw pos (keywordEach [] X.env))) := by rfl) :
    QE K X (.Call (.Attribute o ms apos) (e :: es) [] pos) (tMeth (He.ga K c) ms (rawSp K n d) dvs E te t) (dMethC c ms mds d dds de dt) := ⟨by subst hK; exact pmt h hr hk hx ho.p ha.p hst hpl ht, refE_methC ho.r ha.r hd hn⟩
theorem qmtC0 {d : DSp} {pl : Sem Bool} (h : MethC X.prog X.w K X.mg X.base CX k c ms (rawSp K n d) dvs) (hd : ∀ W, RepVs K W dvs dds) (hr : Room j X.A) (hk : k ≤ j) (hx : Passes CX X E) (hK : X.K = K) (ho : QE K X o te de) (hn : 0 + dds.length + 1 = n := by rfl)
    (ht : eval (.Call (.Attribute o ms apos) [] [] pos) X.env = (do
      let ov ← eval o X.env
      standAt apos.atName
      let (f, first) ← holding [ov] (getMethod ov ms pl)
      callWith pos f first (backTo pos (starEach [] X.env)) (backToKw pos (keywordEach [] X.env))) := by rfl) :
    QE K X (.Call (.Attribute o ms apos) [] [] pos) (tMeth (He.ga K c) ms (rawSp K n d) dvs E te tNil) (dMethC c ms mds d dds de dNil) := ⟨by subst hK; exact pmt0 h hr hk hx ho.p ht, refE_methC ho.r refA_nil hd hn⟩
/-! methods with keywords -/
def MethK (P : Program) (w : World) (K : PySem.W.Frag) (mg : Str → Option Value) (base : Heap) (CX : CXT) (k : Nat) (c ms : Str) (sp : Sp) (n : Nat) (ks : List Str) (gV : List V → List V → List V) : Prop :=
  ∃ (f : Addr) (fd : FuncData) (ps : List Str) (g : List Value → List Value → List Value), Cls K (He.ga K c) ∧ Meth K (He.ga K c) ms f ∧ FnOk P w K mg base CX k f fd ps sp ∧ KBn K fd ps (n + 1) ks g gV
def tMethN (C : Addr) (ms : Str) (n m : Nat) (sp : Sp) (gV : List V → List V → List V) (E : XK) (ta : TE) (t tk : TA) : TE := fun σ H Q => ta σ H fun x H1 => ∃ a dx fs, x = .ref a ∧ H1 a = some (.ins C dx fs) ∧ fs.lookup ms = none ∧
  t σ H1 fun vs H2 => tk σ H2 fun zs H3 => vs.length = n ∧ zs.length = m ∧ sp (gV (x :: vs) zs) H3 Q E
theorem pmtk {sp : Sp} {pl : Sem Bool} (h : MethK X.prog X.w X.K X.mg X.base CX k c ms sp n ks gV) (hr : Room j X.A) (hk : k ≤ j) (hx : Passes CX X E) (he : PE X o te) (ha : PA X (e :: es) t) (hkw : PK X kws tk)
    (hall : (backToKw pos (keywordEach kws X.env)).all (·.1.isSome) = true := by rfl) (hks : (backToKw pos (keywordEach kws X.env)).filterMap (·.1) = ks := by rfl)
    (hst : starEach (e :: es) X.env = (false, eval e X.env) :: starEach es X.env := by rfl)
    (hpl : ((backTo pos (starEach (e :: es) X.env)).any (·.1) || (backToKw pos (keywordEach kws X.env)).any (·.1.isNone)) = false := by rfl)
    (ht : eval (.Call (.Attribute o ms apos) (e :: es) kws pos) X.env = (do
      let ov ← eval o X.env
      standAt apos.atName
      let (f, first) ← holding [ov] (getMethod ov ms pl)
      callWith pos f first (backTo pos (starEach (e :: es) X.env)) (backToKw pos (keywordEach kws X.env))) := by rfl) :
    PE X (.Call (.Attribute o ms apos) (e :: es) kws pos) (tMethN (He.ga X.K c) ms n ks.length sp gV E te t tk) := by
  obtain ⟨f, fd, ps, g, cl, hm, F, hb⟩ := h
  refine ⟨fun pins s σ H Q I h => ?_⟩
  refine PySem.W.methodCall_KW (pl := pl) (thn (he.run pins s σ H _ I h) fun u s1 ⟨x, H1, I1, rx, a, dx, fs, ex, ea, l, q⟩ => ?_) ht
  subst ex
  obtain rfl : u = Value.ref a := rx
  refine getmeth_ok I1 ea cl hm l ?_
  refine PySem.W.callWith_KW (first := [.ref a]) (h₀ := X.base) I.ok.mod.kin hm.kp hall (thn (ha.run pos pins s1 σ H1 _ I1 q) fun us s2 ⟨vs, H2, I2, r, q2⟩ => ?_) hpl hst
  refine thn (hkw.run pos pins s2 σ H2 _ I2 q2) fun ws s3 ⟨zs, H3, I3, rz, l1, l2, q3⟩ => ⟨I3.kIn, ?_⟩
  rw [hks]
  exact run_fnN (us := .ref a :: us) (vs := .ref a :: vs) F (hr.mono hk) hb hx I3 (.cons rfl r) rz (congrArg (· + 1) l1) l2 q3
theorem pmtk0 {sp : Sp} {pl : Sem Bool} (h : MethK X.prog X.w X.K X.mg X.base CX k c ms sp 0 ks gV) (hr : Room j X.A) (hk : k ≤ j) (hx : Passes CX X E) (he : PE X o te) (hkw : PK X kws tk)
    (hall : (backToKw pos (keywordEach kws X.env)).all (·.1.isSome) = true := by rfl) (hks : (backToKw pos (keywordEach kws X.env)).filterMap (·.1) = ks := by rfl)
    (hpl : ((backTo pos (starEach [] X.env)).any (·.1) || (backToKw pos (keywordEach kws X.env)).any (·.1.isNone)) = false := by rfl)
    (ht : eval (.Call (.Attribute o ms apos) [] kws pos) X.env = (do
      let ov ← eval o X.env
      standAt apos.atName
      let (f, first) ← holding [ov] (getMethod ov ms pl)
      callWith pos f first (backTo pos (starEach [] X.env)) (backToKw pos (keywordEach kws X.env))) := by rfl) :
    PE X (.Call (.Attribute o ms apos) [] kws pos) (tMethN (He.ga X.K c) ms 0 ks.length sp gV E te tNil tk) := by
  obtain ⟨f, fd, ps, g, cl, hm, F, hb⟩ := h
  refine ⟨fun pins s σ H Q I h => ?_⟩
  refine PySem.W.methodCall_KW (pl := pl) (thn (he.run pins s σ H _ I h) fun u s1 ⟨x, H1, I1, rx, a, dx, fs, ex, ea, l, q⟩ => ?_) ht
  subst ex
  obtain rfl : u = Value.ref a := rx
  refine getmeth_ok I1 ea cl hm l ?_
  refine PySem.W.callWith_KW0 (first := [.ref a]) (h₀ := X.base) I.ok.mod.kin hm.kp hall ?_ hpl
  refine thn (hkw.run pos pins s1 σ H1 _ I1 q) fun ws s3 ⟨zs, H3, I3, rz, l1, l2, q3⟩ => ⟨I3.kIn, ?_⟩
  rw [hks]
  exact run_fnN (us := [.ref a]) (vs := [.ref a]) F (hr.mono hk) hb hx I3 (.cons rfl .nil) rz rfl l2 q3
/-- how a method's arguments come to places -/
def GRelM (K : PySem.W.Frag) (n m l : Nat) (gV : List V → List V → List V) (gD : List DV → List DV → List DV) : Prop :=
  ∀ W vs zs xs ys, RepVs K W vs xs → RepVs K W zs ys → vs.length = n + 1 → zs.length = m → RepVs K W (gV vs zs) (gD xs ys) ∧ (gV vs zs).length = l
def dMethCK (c ms : Str) (mds : List Md) (d : DSp) (g : List DV → List DV → List DV) (de : DTE) (dt dk : DTA) : DTE := fun S C Q => de S C fun x C1 => match x with
  | .cel i => (match C1[i]? with | some (.dob c' f' _) => (c' = c ∧ f' ≠ ms) ∧ dt S C1 fun xs C2 => dk S C2 fun zs C3 => callD mds d (g (.cel i :: xs) zs) C3 Q | _ => False)
  | _ => False
theorem refE_methCK {d : DSp} {n' : Nat} (he : RefE K te de) (ha : RefA K n t dt) (hkk : RefA K m tk dk) (hg : GRelM K n m n' gV gD) : RefE K (tMethN (He.ga K c) ms n m (rawSp K n' d) gV E te t tk) (dMethCK c ms mds d gD de dt dk) := fun W S C σ s QD Q q k =>
  he W S C σ s _ _ q fun v x W1 C1 e1 s1 r1 q1 => by
    split at q1
    · rename_i i
      split at q1
      · rename_i c' f' kvs hC
        obtain ⟨⟨rfl, hf⟩, q1⟩ := q1
        have r1' := r1
        obtain ⟨a, fp, h1, rfl⟩ := r1
        obtain ⟨⟨dd, dx, us, e, ne, g0, g1, g2⟩, _⟩ := s1.m.cell i _ a fp hC h1 trivial
        refine ⟨a, dx, _, rfl, g0, by rw [List.lookup_cons, beq_eq_false_iff_ne.mpr (Ne.symm hf)]; rfl, ha W1 S C1 σ s1 _ _ q1 fun vs xs W2 C2 hl e2 s2 r2 q2 => hkk W2 S C2 σ s2 _ _ q2 fun zs ys W3 C3 hl3 e3 s3 r3 q3 => ?_⟩
        obtain ⟨g4, g5⟩ := hg W3 (.ref a :: vs) zs _ _ (.cons _ _ _ _ ((r1'.mono s1.m e2).mono s2.m e3) (r2.mono s2.m e3)) r3 (congrArg (· + 1) hl) hl3
        exact ⟨hl, hl3, call_ok s3 g4 g5 q3 (KV.ext k ((e1.trans e2).trans e3))⟩
      · exact q1.elim
    · exact q1.elim
theorem qmtCk {d : DSp} {n' : Nat} {pl : Sem Bool} (h : MethK X.prog X.w K X.mg X.base CX k c ms (rawSp K n' d) n ks gV) (hG : GRelM K n ks.length n' gV gD) (hr : Room j X.A) (hk : k ≤ j) (hx : Passes CX X E) (hK : X.K = K) (ho : QE K X o te de) (ha : QA K X (e :: es) n t dt) (hkw : QK K X kws ks.length tk dk)
    (hall : (backToKw pos (keywordEach kws X.env)).all (·.1.isSome) = true := by rfl) (hks : (backToKw pos (keywordEach kws X.env)).filterMap (·.1) = ks := by rfl)
    (hst : starEach (e :: es) X.env = (false, eval e X.env) :: starEach es X.env := by rfl)
    (hpl : ((backTo pos (starEach (e :: es) X.env)).any (·.1) || (backToKw pos (keywordEach kws X.env)).any (·.1.isNone)) = false := by rfl)
    (ht : eval (.Call (.Attribute o ms apos) (e :: es) kws pos) X.env = (do
      let ov ← eval o X.env
      standAt apos.atName
      let (f, first) ← holding [ov] (getMethod ov ms pl)
      callWith pos f first (backTo pos (starEach (e :: es) X.env)) (backToKw pos (keywordEach kws X.env))) := by rfl) :
    QE K X (.Call (.Attribute o ms apos) (e :: es) kws pos) (tMethN (He.ga K c) ms n ks.length (rawSp K n' d) gV E te t tk) (dMethCK c ms mds d gD de dt dk) := ⟨by subst hK; exact pmtk h hr hk hx ho.p ha.p hkw.p hall hks hst hpl ht, refE_methCK ho.r ha.r hkw.r hG⟩
theorem qmtCk0 {d : DSp} {n' : Nat} {pl : Sem Bool} (h : MethK X.prog X.w K X.mg X.base CX k c ms (rawSp K n' d) 0 ks gV) (hG : GRelM K 0 ks.length n' gV gD) (hr : Room j X.A) (hk : k ≤ j) (hx : Passes CX X E) (hK : X.K = K) (ho : QE K X o te de) (hkw : QK K X kws ks.length tk dk)
    (hall : (backToKw pos (keywordEach kws X.env)).all (·.1.isSome) = true := by rfl) (hks : (backToKw pos (keywordEach kws X.env)).filterMap (·.1) = ks := by rfl)
    (hpl : ((backTo pos (starEach [] X.env)).any (·.1) || (backToKw pos (keywordEach kws X.env)).any (·.1.isNone)) = false := by rfl)
    (ht : eval (.Call (.Attribute o ms apos) [] kws pos) X.env = (do
      let ov ← eval o X.env
      standAt apos.atName
      let (f, first) ← holding [ov] (getMethod ov ms pl)
      callWith pos f first (backTo pos (starEach [] X.env)) (backToKw pos (keywordEach kws X.env))) := by rfl) :
    QE K X (.Call (.Attribute o ms apos) [] kws pos) (tMethN (He.ga K c) ms 0 ks.length (rawSp K n' d) gV E te tNil tk) (dMethCK c ms mds d gD de dNil dk) := ⟨by subst hK; exact pmtk0 h hr hk hx ho.p hkw.p hall hks hpl ht, refE_methCK ho.r refA_nil hkw.r hG⟩
end
end Z

set_option Elab.async false
set_option linter.all false
set_option maxRecDepth 100000
set_option maxHeartbeats 4000000
namespace ZO
open PySem PySem.Spec PyProof.Rows PySem.SeqAt
section
variable {M : Model} {prog : Program} {w : World} {A : Around} {E : Value → Shared → Prop} {s : Shared} {K : PySem.W.Frag} {x C f : Addr} {ox : Obj} {od : Option Obj} {b tb : Value}
theorem ifBound_objNe {args : List Value} {Q : Option Value → Shared → Prop} (kin : K.In s.heap) (inst : PySem.W.InstAt s.heap x ox C od) (hSp : PySem.W.findIn K (.ref C) "__ne__" = some (some (.builtin "object.__ne__")))
    (hc : wpAny M A (call (.builtin "object.__ne__") (.ref x :: args)) (fun v => Q (some v)) E s) : wpAny M A (callSpecialIfBound? (.ref x) "__ne__" args) Q E s := by
  simp only [callSpecialIfBound?, bindSpecialIfBound?]
  refine wpAny_holding (wpAny_bind (wpAny_bind (wpAny_bind (inst.type.here ((PySem.W.looks_findIn kin hSp).here ?_)))))
  refine wpAny_bind (wpAny_askSetting (wpAny_ite ?_))
  have last : wpAny M A (call (.builtin "object.__ne__") ([.ref x] ++ args) >>= fun v => pure (some v)) Q E s := wpAny_bind (wpAny_mono hc (fun v s' hc' => wpAny_pure hc') fun _ _ hc' => hc')
  split
  · exact wpAny_bind (wpAny_of_eq (F.cmp_object.ne.bind _) (wpAny_pure (by exact last)))
  · exact wpAny_tryCatch (wpAny_bind (wpAny_of_eq (F.cmp_object.ne.bind _) (wpAny_pure (by exact last))))
theorem entry_ne {Q : Fin → Shared → Prop} (kin : K.In s.heap) (inst : PySem.W.InstAt s.heap x ox C od) (hRoom : A.units < cLine) (hSp : PySem.W.findIn K (.ref C) "__eq__" = some (some (.ref f))) (hFn : PySem.W.isFn K (.ref f) = true)
    (hc : wpAny (model prog w) A (call (.ref f) [.ref x, b]) (fun v s' => ∃ r, v = .bool r ∧ Q (.done (.ret (.bool (!r)))) s') E s) :
    wpAny (model prog w) A (Builtin.«object.__ne__» ⟨[.ref x, b], []⟩) Q E s := by
  unfold Builtin.«object.__ne__»
  repeat (first
    | with_reducible refine wpAny_cRoomFor hRoom ?_
    | (refine wpAny_bind (m := callSpecialIfBound? (.ref x) (Str.ofString "__eq__") [b])
        (PySem.W.ifBound_K kin inst hSp hFn (wpAny_mono hc (fun r s' hr => by
          obtain ⟨r, rfl, hQ⟩ := hr
          repeat (first | exact hQ | exact wpAny_pure hQ | exact wpAny_truthy_bool hQ | (refine wpAny_bind (m := truthy (.bool _)) (wpAny_truthy_bool ?_)) | wp_step)) fun _ _ ee => ee)))
    | wp_step)
theorem call_objNe {Q : Value → Shared → Prop} (kin : K.In s.heap) (inst : PySem.W.InstAt s.heap x ox C od) (hRoom : A.units + 1 < cLine) (hMro : PySem.W.mroIn K C (.type "object") = some true)
    (hSp : PySem.W.findIn K (.ref C) "__eq__" = some (some (.ref f))) (hFn : PySem.W.isFn K (.ref f) = true)
    (hc : wpAny (model prog w) A.in1 (call (.ref f) [.ref x, b]) (fun v s' => ∃ r, v = .bool r ∧ Q (.bool (!r)) s') E s) :
    wpAny (model prog w) A (call (.builtin "object.__ne__") [.ref x, b]) Q E s :=
  wpAny_call (codeAny_call_builtin F.cmp_object.ne.plain F.cmpEntry_ne (PySem.W.check_slot F.cmpKind_ne F.cmpSplit_ne (inst.type.andThen (PySem.W.looks_mroIn kin hMro)) (F.cmpArgs_ne _ _)
    (entry_ne (A := A.in1) kin inst hRoom hSp hFn hc)))
/-- x != b, the class has an == of its own and no != -/
theorem rcNe_K {Q : Value → Shared → Prop} (hRoom : A.units + 1 < cLine) (kin : K.In s.heap) (inst : PySem.W.InstAt s.heap x ox C od) (hTy : PySem.W.Looks (model prog w) s.heap (typeOf b) tb) (hNf : PySem.W.notFirst K C tb = true) (hMro : PySem.W.mroIn K C (.type "object") = some true)
    (hSp : PySem.W.findIn K (.ref C) "__eq__" = some (some (.ref f))) (hNe : PySem.W.findIn K (.ref C) "__ne__" = some (some (.builtin "object.__ne__"))) (hFn : PySem.W.isFn K (.ref f) = true)
    (hc : wpAny (model prog w) A.in1 (call (.ref f) [.ref x, b]) (fun v s' => ∃ r, v = .bool r ∧ Q (.bool (!r)) s') E s) : wpAny (model prog w) A (richCompare .NotEq (.ref x) b) Q E s := by
  have once : wpAny (model prog w) A (tryCompare (.ref x) "__ne__" b) (fun r s' => ∃ v, r = some v ∧ Q v s') E s := by
    unfold tryCompare
    refine wpAny_bind (ifBound_objNe kin inst hNe (call_objNe kin inst hRoom hMro hSp hFn (wpAny_mono hc (fun v s' hv => ?_) fun _ _ ee => ee)))
    obtain ⟨r, rfl, hQ⟩ := hv
    exact ⟨r, rfl, wpAny_pure ⟨_, rfl, hQ⟩⟩
  unfold richCompare
  simp only [oneThing_ref]
  refine wpAny_holding (wpAny_bind (wpAny_cRoomFor (Nat.lt_of_succ_lt hRoom) ?_))
  refine wpAny_bind (inst.type.here (wpAny_bind (hTy.here ?_)))
  split
  · rename_i qq
    have ee : PySem.W.subIn K tb (.ref C) = some false := by
      rcases Bool.or_eq_true_iff.mp hNf with ee | ee
      · rw [beq_iff_eq.mp ee] at qq; simp at qq
      · exact beq_iff_eq.mp ee
    refine wpAny_bind ((PySem.W.looks_subIn kin ee).here ?_)
    simp only [Bool.false_eq_true, if_false]
    refine wpAny_bind (wpAny_mono once (fun r s' zz => ?_) fun _ _ ee => ee)
    obtain ⟨v, rfl, hQ⟩ := zz
    exact wpAny_pure hQ
  · refine wpAny_bind (wpAny_pure ?_)
    simp only [Bool.false_eq_true, if_false]
    refine wpAny_bind (wpAny_mono once (fun r s' zz => ?_) fun _ _ ee => ee)
    obtain ⟨v, rfl, hQ⟩ := zz
    exact wpAny_pure hQ
end
end ZO
namespace Z
open PySem PySem.Spec PyProof.Rows L2
/-! ### == and != of an instance with an == of its own -/
/-- what the written part says of such a class -/
structure OwnE (K : PySem.W.Frag) (C f : Addr) : Prop where
  eq : PySem.W.findIn K (.ref C) "__eq__" = some (some (.ref f))
  ne : PySem.W.findIn K (.ref C) "__ne__" = some (some (.builtin "object.__ne__"))
  fn : PySem.W.isFn K (.ref f) = true
  ob : PySem.W.mroIn K C (.type "object") = some true
theorem ownEB_ok {K : PySem.W.Frag} {x : Str} (h : ownEB K x = true) : OwnE K (He.ga K x) (He.ma K (He.ga K x) "__eq__") := by
  obtain ⟨a, h⟩ := He.ba h
  obtain ⟨b, h⟩ := He.ba h
  obtain ⟨c, d⟩ := He.ba h
  exact ⟨He.eqO_ok a, He.eqO_ok b, c, of_decide_eq_true d⟩
/-- a type that is no class below C -/
theorem notFirst_self {K : PySem.W.Frag} {C : Addr} : PySem.W.notFirst K C (.ref C) = true := by
  unfold PySem.W.notFirst; simp
theorem notFirst_ty {K : PySem.W.Frag} {C : Addr} {t : String} (h : ((fastBuiltinMro t).map (·.contains (.ref C))) = some false) : PySem.W.notFirst K C (.type t) = true := by
  unfold PySem.W.notFirst
  rw [show PySem.W.subIn K (.type t) (.ref C) = some false from h]
  simp
def rOwn (K : PySem.W.Frag) (C : Addr) (sp : Sp) (E : XK) (neg : Bool) : R2 := fun x y H Q => ∃ a dx fs t, x = .ref a ∧ H a = some (.ins C dx fs) ∧ TyX K H y t ∧ PySem.W.notFirst K C t = true ∧
  sp [x, y] H (fun v H' => ∃ b, v = .bl b ∧ Q (.bl (if neg then !b else b)) H') E
section
variable {X : Cx} {CX : CXT} {k : Nat} {C f : Addr} {fd : FuncData} {ps : List Str} {sp : Sp} {E : XK}
theorem own_call (F : FnOk X.prog X.w X.K X.mg X.base CX k f fd ps sp) (hb : Binds X.K fd ps []) (hx : Passes CX X E) {A : Around} (hr : Room k A) (hfr : A.frames = X.A.frames) {pins : List (Addr × Obj)} {s : Shared} {σ : L2.St} {H : Hp} {x y : V} {u v : Value} (I : Inv X pins σ H s) (rx : RelV x u) (ry : RelV y v)
    {R : Bool → Hp → Prop} (h : sp [x, y] H (fun v H' => ∃ b, v = .bl b ∧ R b H') E) : wpAny (model X.prog X.w) A (call (.ref f) [u, v]) (fun r s' => ∃ b, r = .bool b ∧ ∃ H', Inv X pins σ H' s' ∧ R b H') X.xe s := by
  have e0 : Env0 X.prog X.w X.K X.mg X.base A X.stack s H := by
    have e := I.env0
    exact ⟨by rw [hfr]; exact e.frames, e.mod, e.bs, e.bsz, e.funs, e.frf, e.hok, e.bare⟩
  have hl := F.len _ _ _ _ h
  have r2 : Vals [x, y] [u, v] := .cons rx (.cons ry .nil)
  refine wpAny_call (codeAny_mono (F.run A X.stack s H ⟨[u, v], []⟩ [u, v] [x, y] _ E hr e0 (by
    have := hb s [u, v] I.kIn (by simpa using hl)
    simpa using this) r2 h) fun r s' hq => ?_)
  cases r with
  | error e => exact hx pins σ H s e s' I hq
  | ok fl =>
    cases fl with
    | ret w =>
      obtain ⟨z, H', I', rz, b, ez, q⟩ := I.after hq
      subst ez
      cases rz
      exact ⟨b, rfl, H', I', q⟩
    | next => exact False.elim hq
    | brk => exact False.elim hq
    | cont => exact False.elim hq
theorem op_own (O : OwnE X.K C f) (F : FnOk X.prog X.w X.K X.mg X.base CX k f fd ps sp) (hb : Binds X.K fd ps []) (hx : Passes CX X E) (hr : Room k X.A) : OpR X (compareOp .Eq) (rOwn X.K C sp E false) := by
  intro pins s σ H x y v u Q I rx ry hq
  obtain ⟨a, dx, fs, t, rfl, ha, ty, hn, h⟩ := hq
  obtain rfl : v = Value.ref a := rx
  show wpAny (model X.prog X.w) X.A (richCompare .Eq (.ref a) u) (EP X pins σ Q) X.xe s
  obtain ⟨mA, J, _⟩ := ins_get I.hok ha
  obtain ⟨od, J, _⟩ := J.look
  obtain ⟨Pk, Z, pz, _⟩ := kit_of I ry ty
  obtain ⟨m, hF⟩ := I.fr
  refine PySem.W.cmp_K (op := .Eq) (tb := t) hr.units0 hF I.ok.mod.kin J (Z.ty _ _ I.kIn pz) hn O.eq O.fn ?_
  refine wpAny_mono (own_call F hb hx hr rfl I (show RelV (.ref a) (.ref a) from rfl) ry h) (fun r s' z => ?_) fun _ _ e => e
  obtain ⟨b, rfl, H', I', q⟩ := z
  exact ⟨.bl b, H', I', rfl, q⟩
theorem op_ownN (O : OwnE X.K C f) (F : FnOk X.prog X.w X.K X.mg X.base CX k f fd ps sp) (hb : Binds X.K fd ps []) (hx : Passes CX X E) (hr : Room (k + 1) X.A) : OpR X (compareOp .NotEq) (rOwn X.K C sp E true) := by
  intro pins s σ H x y v u Q I rx ry hq
  obtain ⟨a, dx, fs, t, rfl, ha, ty, hn, h⟩ := hq
  obtain rfl : v = Value.ref a := rx
  show wpAny (model X.prog X.w) X.A (richCompare .NotEq (.ref a) u) (EP X pins σ Q) X.xe s
  obtain ⟨mA, J, _⟩ := ins_get I.hok ha
  obtain ⟨od, J, _⟩ := J.look
  obtain ⟨Pk, Z, pz, _⟩ := kit_of I ry ty
  have hu1 : X.A.units + 1 < cLine := by have := hr.in1.units0; exact this
  refine ZO.rcNe_K hu1 I.kIn J (Z.ty _ _ I.kIn pz) hn O.ob O.eq O.ne O.fn ?_
  refine wpAny_mono (own_call F hb hx hr.in1 rfl I (show RelV (.ref a) (.ref a) from rfl) ry h) (fun r s' z => ?_) fun _ _ e => e
  obtain ⟨b, rfl, H', I', q⟩ := z
  exact ⟨b, rfl, .bl (!b), H', I', rfl, q⟩
end
end Z

set_option Elab.async false
set_option linter.all false
set_option maxRecDepth 100000
set_option maxHeartbeats 4000000
/-! ### kinds: isinstance, == of one's own -/
namespace Z
open PySem PySem.Spec PyProof.Rows L2
inductive Kd where
  | non | bl | int | str | tup | lst | dic | own (c : Str)
def kdS : Kd → String
  | .non => "NoneType" | .bl => "bool" | .int => "int" | .str => "str" | .tup => "tuple" | .lst => "list" | .dic => "dict" | .own _ => ""
def kdV (K : PySem.W.Frag) : Kd → Value
  | .own c => .ref (He.ga K c)
  | k => .type (kdS k)
/-- a value of the kind k is an instance of the built-in kind t -/
def kdIs : Kd → Kd → Bool
  | .non, .non => true | .bl, .bl => true | .bl, .int => true | .int, .int => true | .str, .str => true | .tup, .tup => true | .lst, .lst => true | .dic, .dic => true
  | _, _ => false
def kindX (x : DV) (C : Cs) : Option Kd := match x with
  | .of .non => some .non | .of (.bl _) => some .bl | .of (.int _) => some .int | .of (.str _) => some .str | .of (.tup _) => some .tup | .of (.lst _) => some .lst | .bor _ => some .lst | .scr _ => some .lst
  | .of (.ins c _) => some (.own c)
  | .cel i => (match C[i]? with | some (.lst _) => some .lst | some (.pl _) => some .lst | some (.dct _) => some .dic | some (.dob c _ _) => some (.own c) | _ => none)
  | _ => none
def ownK : Kd → Prop
  | .own _ => True
  | _ => False
theorem kd_table : ∀ a ∈ [Kd.non, .bl, .int, .str, .tup, .lst, .dic], ∀ b ∈ [Kd.non, .bl, .int, .str, .tup, .lst, .dic], kitB (kdS a) (kdS b) = some (kdIs a b) := by
  intro a ha b hb
  simp only [List.mem_cons, List.not_mem_nil, or_false] at ha hb
  rcases ha with h | h | h | h | h | h | h <;> rcases hb with g | g | g | g | g | g | g <;> subst h <;> subst g <;> decide +kernel
section
variable {K : PySem.W.Frag} [Gd K] {W : Wd} {S : Sl} {C : Cs} {σ : L2.St}
theorem tyx_list {H : Hp} {a : Addr} {us : List V} (h : SqL K H a us) : TyX K H (.ref a) (.type "list") := by
  rcases h with (h | ⟨o, h⟩) | ⟨o, its, n, hk, hc, _⟩
  · exact .base (.lst h)
  · exact .base (.frz h)
  · exact .kList hk hc
theorem tyx_tup {H : Hp} {a : Addr} {us : List V} (h : SqT K H a us) : TyX K H (.ref a) (.type "tuple") := by
  rcases h with (h | ⟨o, h⟩) | ⟨o, its, n, hk, hc, _⟩
  · exact .base (.tup h)
  · exact .fTuple h
  · exact .kTuple hk hc
theorem kindX_ok {v : V} {x : DV} {k : Kd} (m : Mem K W C) (r : RepV K W v x) (h : kindX x C = some k) (hc : ∀ c, k = .own c → ClsI K (He.ga K c)) : TyX K W.H v (kdV K k) := by
  cases x with
  | of d =>
    cases d with
    | non => cases h; cases r; exact .base .non
    | bl b => cases h; cases r; exact .base (.bl _)
    | int i => cases h; cases r; exact .base (.int _)
    | str z => cases h; obtain ⟨z, rfl, _⟩ := rep_str r; exact .base (.str _)
    | tup l => cases h; obtain ⟨a, us, rfl, h1, _⟩ := rep_tup r; exact tyx_tup h1
    | lst l => cases h; obtain ⟨a, us, rfl, h1, _⟩ := rep_lst r; exact tyx_list h1
    | ins c fs =>
      cases h
      cases r with
      | ins a dx _ fs' _ e n _ => exact (hc c rfl).at e
    | val u => cases h
  | bor l => cases h; obtain ⟨a, us, rfl, h1, _⟩ := r; exact .base (.lst h1)
  | scr l =>
    cases h
    obtain ⟨a, us, rfl, h1, _⟩ := r
    rcases h1 with ⟨h1, _⟩ | h1
    · exact tyx_list (.inl h1)
    · exact tyx_list (h1 _)
  | sub i => cases h
  | cel i =>
    obtain ⟨a, fp, h1, rfl⟩ := r
    have h' : (match C[i]? with | some (.lst _) => some Kd.lst | some (.pl _) => some .lst | some (.dct _) => some .dic | some (.dob c _ _) => some (.own c) | _ => none) = some k := h
    split at h'
    · rename_i l hl; cases h'; obtain ⟨⟨_, us, q, _⟩, _⟩ := m.cell i _ a fp hl h1 trivial; exact .base (.lst q)
    · rename_i l hl; cases h'; obtain ⟨⟨_, us, q, _⟩, _⟩ := m.cell i _ a fp hl h1 trivial; exact .base (.lst q)
    · rename_i l hl; cases h'; obtain ⟨⟨_, us, q, _⟩, _⟩ := m.cell i _ a fp hl h1 trivial; exact .base (.dK q)
    · rename_i c f l hl
      cases h'
      obtain ⟨⟨d, dx, us, _, _, q, _, _⟩, _⟩ := m.cell i _ a fp hl h1 trivial
      exact (hc c rfl).at q
    · cases h'
end
section
variable {K : PySem.W.Frag} [Gd K] {X : Cx}
/-- isinstance(x, T), T a built-in type -/
def dIsiT (cs : List Str) (t : Kd) : DRA := fun xs C Q => match xs with
  | [x, .of (.val u)] => u = .ty (kdS t) ∧ (match kindX x C with | some (.own c) => c ∈ cs ∧ Q (.of (.bl false)) C | some k => Q (.of (.bl (kdIs k t))) C | none => False)
  | _ => False
/-- isinstance(x, C), C an own class; cs: the classes known, and what is answered -/
def dIsiC (K : PySem.W.Frag) (y : Str) (cs : List (Str × Bool)) : DRA := fun xs C Q => match xs with
  | [x, .of (.val u)] => u = .ref (He.ga K y) ∧ (match kindX x C with | some (.own c) => ∃ b, (c, b) ∈ cs ∧ Q (.of (.bl b)) C | some _ => Q (.of (.bl false)) C | none => False)
  | _ => False
theorem kd_cs {t : Kd} (h : t ∈ [Kd.non, .bl, .int, .str, .tup, .lst, .dic]) : kdS t ∈ ["NoneType", "bool", "int", "str", "list", "tuple", "dict", "float", "set"] := by
  simp only [List.mem_cons, List.not_mem_nil, or_false] at h
  rcases h with h | h | h | h | h | h | h <;> subst h <;> decide +kernel
theorem kd_in {k : Kd} (h : ∀ c, k ≠ .own c) : k ∈ [Kd.non, .bl, .int, .str, .tup, .lst, .dic] := by
  cases k with
  | own c => exact absurd rfl (h c)
  | _ => simp
theorem kdV_ty {k : Kd} (h : ∀ c, k ≠ .own c) : kdV K k = .type (kdS k) := by
  cases k <;> first | rfl | exact absurd rfl (h _)
theorem cq_isiT (hK : X.K = K) (t : Kd) (cs : List Str) (ht : t ∈ [Kd.non, .bl, .int, .str, .tup, .lst, .dic]) (hcs : ∀ c ∈ cs, ClsI K (He.ga K c)) : QC K X (.builtin "isinstance") 2 (rIsi K) (dIsiT cs t) := ⟨by subst hK; exact call_isi, fun W S C σ st vs xs QD Q hlen r q k => by
  unfold dIsiT at q
  split at q
  · obtain ⟨hu, q⟩ := q
    obtain ⟨v, w, rfl, r1, r2⟩ := repVs2 r
    cases r2
    subst hu
    split at q
    · rename_i c hk
      obtain ⟨hc, q⟩ := q
      exact ⟨v, _, _, _, false, rfl, .ty _, kindX_ok st.m r1 hk (fun c' e => by cases e; exact hcs c hc), ((hcs c hc).ty _ (kd_cs ht)).2, k.here st (.bl _) q⟩
    · rename_i kd hno hk
      have hn : ∀ c, kd ≠ .own c := fun c e => hno c e
      exact ⟨v, _, _, _, _, rfl, .ty _, kindX_ok st.m r1 hk (fun c' e => absurd e (hn c')), by rw [kdV_ty hn]; exact kit_ty (kd_table kd (kd_in hn) t ht), k.here st (.bl _) q⟩
    · exact q.elim
  · exact q.elim⟩
theorem cq_isiC (hK : X.K = K) {y : Str} (ci : ClsI K (He.ga K y)) (cs : List (Str × Bool)) (hcs : ∀ p ∈ cs, ClsI K (He.ga K p.1) ∧ PySem.W.kitOne K (.ref (He.ga K p.1)) (.ref (He.ga K y)) = some p.2) : QC K X (.builtin "isinstance") 2 (rIsi K) (dIsiC K y cs) := ⟨by subst hK; exact call_isi, fun W S C σ st vs xs QD Q hlen r q k => by
  unfold dIsiC at q
  split at q
  · obtain ⟨hu, q⟩ := q
    obtain ⟨v, w, rfl, r1, r2⟩ := repVs2 r
    cases r2
    subst hu
    split at q
    · rename_i c hk
      obtain ⟨b, hc, q⟩ := q
      exact ⟨v, _, _, _, b, rfl, .own _, kindX_ok st.m r1 hk (fun c' e => by cases e; exact (hcs _ hc).1), (hcs _ hc).2, k.here st (.bl _) q⟩
    · rename_i kd hno hk
      have hn : ∀ c, kd ≠ .own c := fun c e => hno c e
      exact ⟨v, _, _, _, false, rfl, .own _, kindX_ok st.m r1 hk (fun c' e => absurd e (hn c')), by rw [kdV_ty hn]; exact (ci.ty _ (kd_cs (kd_in hn))).1, k.here st (.bl _) q⟩
    · exact q.elim
  · exact q.elim⟩
/-! == of one's own -/
def dOwn (c : Str) (mds : List Md) (d : DSp) (neg : Bool) : DR2 := fun x y C Q => (match kindX x C with | some (.own c') => c' = c | _ => False) ∧ (match kindX y C with | some (.own c') => c' = c | some _ => True | none => False) ∧
  callD mds d [x, y] C fun r C' => match r with | .of (.bl b) => Q (.of (.bl (cond neg (!b) b))) C' | _ => False
theorem notF_tab (C : Addr) : ∀ a ∈ [Kd.non, .bl, .int, .str, .tup, .lst, .dic], ((fastBuiltinMro (kdS a)).map (·.contains (.ref C))) = some false := by
  intro a ha
  have key : ∀ l : List Value, (l.all fun v => match v with | .ref _ => false | _ => true) = true → l.contains (.ref C) = false := by
    intro l h
    cases q : l.contains (.ref C) with
    | false => rfl
    | true =>
      have := List.all_eq_true.mp h _ (List.contains_iff_mem.mp q)
      simp at this
  have go : ∀ t, ((fastBuiltinMro t).map fun l => l.all fun v => match v with | .ref _ => false | _ => true) = some true → ((fastBuiltinMro t).map (·.contains (.ref C))) = some false := by
    intro t h
    cases q : fastBuiltinMro t with
    | none => rw [q] at h; cases h
    | some l =>
      rw [q] at h
      show some (l.contains (.ref C)) = some false
      rw [key l (Option.some.inj h)]
  simp only [List.mem_cons, List.not_mem_nil, or_false] at ha
  rcases ha with h | h | h | h | h | h | h <;> subst h <;> exact go _ (by decide +kernel)
theorem ins_of {W : Wd} {C : Cs} {v : V} {x : DV} {c : Str} (m : Mem K W C) (r : RepV K W v x) (h : kindX x C = some (.own c)) : ∃ a dx fs, v = .ref a ∧ W.H a = some (.ins (He.ga K c) dx fs) := by
  cases x with
  | of d =>
    cases d with
    | ins c fs =>
      cases h
      cases r with
      | ins a dx _ fs' _ e n _ => exact ⟨a, dx, _, rfl, e⟩
    | _ => cases h
  | bor l => cases h
  | scr l => cases h
  | sub i => cases h
  | cel i =>
    obtain ⟨a, fp, h1, rfl⟩ := r
    have h' : (match C[i]? with | some (.lst _) => some Kd.lst | some (.pl _) => some .lst | some (.dct _) => some .dic | some (.dob c _ _) => some (.own c) | _ => none) = some (.own c) := h
    split at h' <;> first | (cases h'; done) | skip
    rename_i c f l hl
    cases h'
    obtain ⟨⟨d, dx, us, _, _, q, _, _⟩, _⟩ := m.cell i _ a fp hl h1 trivial
    exact ⟨a, dx, _, rfl, q⟩
theorem refR_own {c : Str} {mds : List Md} {d : DSp} {neg : Bool} {E : XK} (ci : ClsI K (He.ga K c)) : RefR K (rOwn K (He.ga K c) (rawSp K 2 d) E neg) (dOwn c mds d neg) := fun W S C σ st v u x y QD Q rx ry q k => by
  obtain ⟨q1, q2, q3⟩ := q
  split at q1
  · rename_i c' hx
    subst q1
    obtain ⟨a, dx, fs, rfl, ha⟩ := ins_of st.m rx hx
    have tl : ∃ t, TyX K W.H u t ∧ PySem.W.notFirst K (He.ga K c') t = true := by
      split at q2
      · rename_i c2 hy
        subst q2
        exact ⟨_, kindX_ok st.m ry hy (fun c3 e => by cases e; exact ci), notFirst_self⟩
      · rename_i kd hno hy
        have hn : ∀ c, kd ≠ .own c := fun c e => hno c e
        exact ⟨_, kindX_ok st.m ry hy (fun c3 e => absurd e (hn c3)), by rw [kdV_ty hn]; exact notFirst_ty (notF_tab _ kd (kd_in hn))⟩
      · exact q2.elim
    obtain ⟨t, ty, hn⟩ := tl
    refine ⟨a, dx, fs, t, rfl, ha, ty, hn, call_ok (Q := fun v H' => ∃ b, v = .bl b ∧ Q (.bl (if neg then !b else b)) H') st (.cons _ _ _ _ rx (.cons _ _ _ _ ry .nil)) rfl q3 fun v x W' C' e' s' r' q' => ?_⟩
    split at q'
    · rename_i b
      cases r'
      refine ⟨b, rfl, k _ (.of (.bl (if neg = true then !b else b))) W' C' e' s' (Rep.bl _) ?_⟩
      cases neg <;> exact q'
    · exact q'.elim
  · exact q1.elim
theorem own_get {P : Program} {w : World} {mg : Str → Option Value} {base : Heap} {CX : CXT} {k : Nat} {c : Str} {sp : Sp} {f : Addr} (h : MethC P w K mg base CX k c "__eq__" sp []) (O : OwnE K (He.ga K c) f) : ∃ fd ps, FnOk P w K mg base CX k f fd ps sp ∧ Binds K fd ps [] := by
  obtain ⟨f', fd, ps, ds, _, me, F, b, v⟩ := h
  cases v
  have e := me.at_
  rw [O.eq] at e
  cases e
  exact ⟨fd, ps, F, b⟩
variable {CX : CXT} {k j : Nat} {c : Str} {mds : List Md} {d : DSp} {E : XK} {f : Addr}
theorem oq_own (h : MethC X.prog X.w K X.mg X.base CX k c "__eq__" (rawSp K 2 d) []) (O : OwnE K (He.ga K c) f) (ci : ClsI K (He.ga K c)) (hr : Room j X.A) (hk : k ≤ j) (hx : Passes CX X E) (hK : X.K = K) : QOp K X (compareOp .Eq) (rOwn K (He.ga K c) (rawSp K 2 d) E false) (dOwn c mds d false) := ⟨by
  subst hK
  obtain ⟨fd, ps, F, b⟩ := own_get h O
  exact op_own O F b hx (hr.mono hk), refR_own ci⟩
theorem oq_ownN (h : MethC X.prog X.w K X.mg X.base CX k c "__eq__" (rawSp K 2 d) []) (O : OwnE K (He.ga K c) f) (ci : ClsI K (He.ga K c)) (hr : Room j X.A) (hk : k + 1 ≤ j) (hx : Passes CX X E) (hK : X.K = K) : QOp K X (compareOp .NotEq) (rOwn K (He.ga K c) (rawSp K 2 d) E true) (dOwn c mds d true) := ⟨by
  subst hK
  obtain ⟨fd, ps, F, b⟩ := own_get h O
  exact op_ownN O F b hx (hr.mono hk), refR_own ci⟩
end
end Z

set_option Elab.async false
set_option linter.all false
set_option maxRecDepth 100000
set_option maxHeartbeats 4000000
namespace ZS
open PySem PySem.Spec PyProof.Rows HT L2
section
variable {prog : Program} {w : World} {A : Around} {E : Value → Shared → Prop} {I : Addr} {fp wr : List Addr} {G : Array GenState → Array GenState → Prop} {n : Nat} {P : Nat → Value → Prop} {St : Nat → Shared → Prop}
/-- from the k-th turn on -/
theorem shift (W : WalksS prog w A I fp wr G n P St) (k : Nat) (hk : k ≤ n) : WalksS prog w A I fp wr G (n - k) (fun i v => P (k + i) v) (fun i s => St (k + i) s) where
  sub := W.sub
  grefl := W.grefl
  gtrans := W.gtrans
  frame := fun i s h' tk st ht hb => W.frame (k + i) s h' tk st ht hb
  item := fun i s Q E hi st hQ => W.item (k + i) s Q E (by omega) st fun v s' hP st' hm => hQ v s' hP (by rw [show k + (i + 1) = k + i + 1 by omega]; exact st') hm
  done := fun s Q E st hQ => W.done s Q E (by rw [show k + (n - k) = n by omega] at st; exact st) hQ
  self := fun i s Q E st hQ => W.self (k + i) s Q E st hQ
theorem draw_walk (W : WalksS prog w A I fp wr G n P St) : ∀ (k i : Nat) (s : Shared) (Q : List Value → Shared → Prop), i + k ≤ n → St i s →
    (∀ vs s', vs.length = k → (∀ j v, vs[j]? = some v → P (i + j) v) → St (i + k) s' → Moved wr G s s' → Q vs s') → wpAny (model prog w) A (draw (.ref I) k) Q E s
  | 0, i, s, Q, _, st, hQ => by
    show wpAny _ _ (pure []) Q E s
    exact wpAny_pure (hQ [] s rfl (fun j v h => by simp at h) st (Moved.refl W.grefl))
  | k + 1, i, s, Q, hi, st, hQ => by
    show wpAny _ _ (pyNext (.ref I) >>= _) Q E s
    refine wpAny_bind (W.item i s _ E (by omega) st fun v s1 hP st1 m1 => ?_)
    refine wpAny_bind (wpAny_holding (draw_walk W k (i + 1) s1 _ (by omega) st1 fun vs s2 hl hv st2 m2 => wpAny_pure ?_))
    refine hQ (v :: vs) s2 (by simp [hl]) (fun j u hu => ?_) (by rw [show i + (k + 1) = i + 1 + k by omega]; exact st2) (m1.trans W.gtrans m2)
    cases j with
    | zero =>
      have e : v = u := Option.some.inj hu
      subst e
      exact hP
    | succ j =>
      have := hv j u hu
      rw [show i + (j + 1) = i + 1 + j by omega]
      exact this
end
theorem items_take {items : Array Value} {vs : List Value} {i k : Nat} (hl : vs.length = k) (hk : i + k ≤ items.size) (h : ∀ j v, vs[j]? = some v → items[i + j]? = some v) : vs = (items.toList.drop i).take k := by
  refine List.ext_getElem? fun j => ?_
  by_cases hj : j < k
  · rw [List.getElem?_take_of_lt hj, List.getElem?_drop]
    have hj' : j < vs.length := by omega
    have e := h j vs[j] (List.getElem?_eq_getElem hj')
    rw [List.getElem?_eq_getElem hj', Array.getElem?_toList, e]
  · rw [List.getElem?_eq_none (by omega), List.getElem?_eq_none (by rw [List.length_take]; omega)]
section
variable {prog : Program} {w : World} {A : Around} {E : Value → Shared → Prop} {s : Shared}
theorem unpackStar {v : Value} {O : Obj} {items : Array Value} {T T2 id : String} {n i : Nat} {fp : List Addr} {St : Nat → Shared → Prop} {Q : List Value → Shared → Prop} (hh : A.handled = none) (hT : s.TypeIs v T) (hsl : Slot T "__iter__" id)
    (hit : ∀ Q' : Value → Shared → Prop, Q' (.ref s.heap.objs.size) { s with heap := s.heap.push O } → wpAny (model prog w) A (pyIter v) Q' E s)
    (W : ∀ A' : Around, A'.handled = none → WalksS prog w A' s.heap.objs.size fp [s.heap.objs.size] (fun a b => b = a) items.size (fun i v => items[i]? = some v) St)
    (hT2 : T2 = "str_ascii_iterator" ∨ T2 = "str_iterator" ∨ T2 = "list_iterator" ∨ T2 = "tuple_iterator") (hty2 : ∀ i s', St i s' → s'.TypeIs (.ref s.heap.objs.size) T2)
    (hst : St 0 { s with heap := s.heap.push O }) (hfp : ∀ i s', St i s' → ∀ b ∈ fp, b < s'.heap.objs.size) (hI : s.heap.objs.size ∈ fp) (hin : i < n) (hn : n - 1 ≤ items.size) (hz : items.size ≤ sizeLine)
    (hQ : ∀ (h' : Heap) (tk : Tok), (∀ b o, s.heap.get? b = some o → h'.get? b = some o) →
      Q (items.toList.take i ++ [.ref h'.objs.size] ++ items.toList.drop (items.size - (n - 1 - i))) { s with heap := h'.push { cls := .type "list", data := .seq ((items.toList.drop i).take (items.size - i - (n - 1 - i))).toArray }, toks := tk }) :
    wpAny (model prog w) A (unpackItems v n (some i)) Q E s := by
  unfold unpackItems
  refine wpAny_bind ?_
  unfold notIterableAtAll
  refine wpAny_bind (wpAny_specialOf hT hsl.lookup ?_)
  refine wpAny_pure ?_
  simp only [Bool.false_eq_true, if_false]
  refine wpAny_bind (wpAny_holding (hit _ ?_))
  have hi' : i ≤ items.size := by omega
  refine wpAny_bind (wpAny_holding (draw_walk (W A hh) i 0 _ _ (by omega) hst fun vs s1 hl hv st1 m1 => ?_))
  rw [if_neg (show ¬ vs.length < i by omega)]
  have hvs : vs = items.toList.take i := by
    have := items_take (i := 0) hl (by omega) fun j v h => hv j v h
    rw [List.drop_zero] at this
    exact this
  have new : ∀ b o, s.heap.get? b = some o → b ∉ [s.heap.objs.size] := fun b o e hm => by
    rw [List.mem_singleton] at hm
    exact absurd (hm ▸ Heap.lt_size e) (Nat.lt_irrefl _)
  have m0 : ∀ b o, s.heap.get? b = some o → s1.heap.get? b = some o := fun b o e => m1.heap b o (new b o e) (Heap.get?_push_of_some _ e)
  rw [Nat.zero_add] at st1
  refine wpAny_bind (wpAny_holding (wpAny_collect_iter hT2 (shift (W A.in1 hh) i hi') (fun j s' st => hty2 _ _ st) (by exact st1) (hfp _ _ st1) hI (fun s2 acc m2 hacc => ?_) (by omega)))
  have hacc2 : acc.toList = items.toList.drop i := by
    obtain ⟨h1, h2⟩ := hacc
    have := items_take (items := items) (vs := acc.toList) (i := i) (k := items.size - i) (by rw [Array.length_toList, h1]) (by omega) fun j v h => h2 j v (by rw [← Array.getElem?_toList]; exact h)
    rw [this, List.take_of_length_le (by rw [List.length_drop, Array.length_toList]; exact Nat.le_refl _)]
  rw [hacc2]
  have hlen : (items.toList.drop i).length = items.size - i := by rw [List.length_drop, Array.length_toList]
  rw [if_neg (by rw [hlen]; omega)]
  have m20 : ∀ b o, s.heap.get? b = some o → s2.heap.get? b = some o := fun b o e => m2.heap b o (new b o e) (m0 b o e)
  obtain ⟨h2, g2, d2, t2, os2⟩ := s2
  have eg : g2 = s.gens := (show g2 = s1.gens from m2.gens).trans (show s1.gens = s.gens from m1.gens)
  have ed : d2 = s.drawn := (show d2 = s1.drawn from m2.drawn).trans (show s1.drawn = s.drawn from m1.drawn)
  have eo : os2 = s.os := (show os2 = s1.os from m2.os).trans (show s1.os = s.os from m1.os)
  subst eg ed eo
  refine wpAny_bind (wpAny_newObj_type ?_ ?_)
  · have q := hQ h2 t2 m20
    have e3 : (items.toList.drop i).drop (items.size - i - (n - 1 - i)) = items.toList.drop (items.size - (n - 1 - i)) := by
      rw [List.drop_drop]; congr 1; omega
    rw [hlen, hvs, e3]
    exact wpAny_pure q
  · show (List.take _ _).toArray.size ≤ sizeLine
    rw [List.size_toArray, List.length_take, hlen]; omega
end
section
variable {prog : Program} {w : World} {A : Around} {E : Value → Shared → Prop} {s : Shared}
theorem isList_lt {h : Heap} {a : Addr} {items : Array Value} (x : h.IsList a items) : a < h.objs.size := by
  obtain ⟨_, e, _⟩ := x
  exact Heap.lt_size e
theorem unpackStar_list {l : Addr} {items : Array Value} {n i : Nat} {Q : List Value → Shared → Prop} (hh : A.handled = none) (hl : s.heap.IsList l items) (hin : i < n) (hn : n - 1 ≤ items.size) (hz : items.size ≤ sizeLine)
    (hQ : ∀ (h' : Heap) (tk : Tok), (∀ b o, s.heap.get? b = some o → h'.get? b = some o) →
      Q (items.toList.take i ++ [.ref h'.objs.size] ++ items.toList.drop (items.size - (n - 1 - i))) { s with heap := h'.push { cls := .type "list", data := .seq ((items.toList.drop i).take (items.size - i - (n - 1 - i))).toArray }, toks := tk }) :
    wpAny (model prog w) A (unpackItems (.ref l) n (some i)) Q E s := by
  have hne : l ≠ s.heap.objs.size := Nat.ne_of_lt (isList_lt hl)
  refine unpackStar (T2 := "list_iterator") hh hl.typeIs slot_list_iter (fun Q' hq => wpAny_pyIter_list hl hq) (fun A' h' => (Walks.list (A := A') h' s.heap.objs.size l hne items).toS) (.inr (.inr (.inl rfl))) (fun j s' st => st.1.typeIs)
    ⟨⟨_, Heap.get?_push_size _ rfl, rfl, rfl⟩, hl.push _⟩ (fun j s' st b hb => ?_) (by simp) hin hn hz hQ
  rcases List.mem_cons.mp hb with rfl | hb
  · obtain ⟨_, e, _⟩ := st.1; exact Heap.lt_size e
  · rw [List.mem_singleton] at hb; subst hb; exact isList_lt st.2
theorem unpackStar_tup {l : Addr} {items : Array Value} {n i : Nat} {Q : List Value → Shared → Prop} (hh : A.handled = none) (hl : s.heap.IsTuple l items) (hin : i < n) (hn : n - 1 ≤ items.size) (hz : items.size ≤ sizeLine)
    (hQ : ∀ (h' : Heap) (tk : Tok), (∀ b o, s.heap.get? b = some o → h'.get? b = some o) →
      Q (items.toList.take i ++ [.ref h'.objs.size] ++ items.toList.drop (items.size - (n - 1 - i))) { s with heap := h'.push { cls := .type "list", data := .seq ((items.toList.drop i).take (items.size - i - (n - 1 - i))).toArray }, toks := tk }) :
    wpAny (model prog w) A (unpackItems (.ref l) n (some i)) Q E s := by
  have hlt : ∀ {h : Heap}, h.IsTuple l items → l < h.objs.size := fun {h} x => by
    obtain ⟨_, e, _⟩ := x
    exact Heap.lt_size e
  have hne : l ≠ s.heap.objs.size := Nat.ne_of_lt (hlt hl)
  refine unpackStar (T2 := "tuple_iterator") hh hl.typeIs PyProof.Rows.slot_tuple_iter (fun Q' hq => iter_tuple hl hq) (fun A' h' => (Walks.tuple (A := A') h' s.heap.objs.size l hne items).toS) (.inr (.inr (.inr rfl))) (fun j s' st => st.1.typeIs)
    ⟨⟨_, Heap.get?_push_size _ rfl, rfl, rfl⟩, hl.push _⟩ (fun j s' st b hb => ?_) (by simp) hin hn hz hQ
  rcases List.mem_cons.mp hb with rfl | hb
  · obtain ⟨_, e, _⟩ := st.1; exact Heap.lt_size e
  · rw [List.mem_singleton] at hb; subst hb; exact hlt st.2
end
end ZS
namespace Z
open PySem PySem.Spec PyProof.Rows L2
/-- (a, *b, c) = a list or a tuple: b gets a new list -/
def gStar (K : PySem.W.Frag) (n i : Nat) (t : TGs) : TG := fun v σ H Q => ∃ a xs, v = .ref a ∧ (SqL K H a xs ∨ SqT K H a xs) ∧ n - 1 ≤ xs.length ∧
  ∀ p, H p = none → t (xs.take i ++ [.ref p] ++ xs.drop (xs.length - (n - 1 - i))) σ (L2.upd H p (.lst ((xs.drop i).take (xs.length - i - (n - 1 - i))))) Q
theorem pgs_star {X : Cx} {e : Expr} {p : Pos} {es : List Expr} {t : TG} {u : TGs} (h1 : PG X e t) (h2 : PGs X es u)
    (hs : (assignEach (.Starred e p :: es) X.env).map (·.2) = assign e X.env :: (assignEach es X.env).map (·.2) := by rfl) : PGs X (.Starred e p :: es) (gCons t u) := by
  refine ⟨fun pins s σ H vs us Q I r h => ?_⟩
  obtain ⟨v, vr, e1, h⟩ := h
  subst e1
  cases r with
  | cons r rr =>
    rw [hs]
    refine assignInOrder_cons (thn (h1.run pins s σ H _ _ _ I r h) fun _ s1 ⟨σ1, H1, I1, q1⟩ => ?_)
    exact h2.run pins s1 σ1 H1 _ _ Q I1 rr q1
theorem pg_star {X : Cx} {es : List Expr} {k : Nat} {t : TGs} {n i : Nat} {pos : Pos} (hc : X.calm = true) (h : PGs X es t)
    (hn : (assignEach es X.env).length = n := by rfl) (hst : (assignEach es X.env).findIdx? (·.1) = some i := by rfl) (hin : i < n := by decide) : PG X (.Tuple es k pos) (gStar X.K n i t) := by
  refine ⟨fun pins s σ H v u Q I r hw => ?_⟩
  obtain ⟨a, xs, e1, hq, hl, hw⟩ := hw
  subst e1
  cases r
  rw [assign_Tuple]
  refine wpAny_bind (wpAny_standAt ?_)
  unfold unpack
  rw [hn, hst]
  refine wpAny_bind (wpAny_holding ?_)
  have fin : ∀ (its : List Value), Vals xs its → xs.length ≤ sizeLine → ∀ (h' : Heap) (tk : Tok), (∀ b o, s.heap.get? b = some o → h'.get? b = some o) →
      wpAny (model X.prog X.w) X.A (assignInOrder ((assignEach es X.env).map (·.2)) (its.toArray.toList.take i ++ [.ref h'.objs.size] ++ its.toArray.toList.drop (its.toArray.size - (n - 1 - i)))) (fun _ s' => ∃ σ' H', Inv X pins σ' H' s' ∧ Q σ' H') X.xe
        { s with heap := h'.push { cls := .type "list", data := .seq ((its.toArray.toList.drop i).take (its.toArray.size - i - (n - 1 - i))).toArray }, toks := tk } := by
    intro its rv hz h' tk hk
    have I1 : Inv X pins σ H { s with heap := h', toks := tk } := I.kept (t' := tk) fun b o e => hk b o e
    have hf : H h'.objs.size = none := I1.hok.fresh (Nat.le_refl _)
    have rl : Vals ((xs.drop i).take (xs.length - i - (n - 1 - i))) ((its.drop i).take (xs.length - i - (n - 1 - i))) := Vals.take _ (Vals.drop _ rv)
    have e2 : its.toArray.size = xs.length := by rw [List.size_toArray, rv.length]
    rw [e2]
    show wpAny _ _ (assignInOrder _ (its.take i ++ [.ref h'.objs.size] ++ its.drop (xs.length - (n - 1 - i)))) _ _ _
    have I2 : Inv X pins σ (L2.upd H h'.objs.size (.lst ((xs.drop i).take (xs.length - i - (n - 1 - i))))) { s with heap := h'.push { cls := .type "list", data := .seq ((its.drop i).take (xs.length - i - (n - 1 - i))).toArray }, toks := tk } :=
      I1.laid (t' := tk) (o := .lst ((xs.drop i).take (xs.length - i - (n - 1 - i)))) (fun b ob q => Heap.get?_push_of_some _ q) (Nat.le_refl _) ⟨by rw [List.length_take, List.length_drop]; omega, _, 0, rl, Heap.get?_push_size _ rfl⟩
    exact h.run pins _ σ _ _ _ Q I2 (((Vals.take i rv).append (show Vals [V.ref h'.objs.size] [Value.ref h'.objs.size] from .cons rfl .nil)).append (Vals.drop _ rv)) (hw _ hf)
  rcases hq with hq | hq
  · obtain ⟨its, rv, p1, hz⟩ := I.list hq
    exact ZS.unpackStar_list (I.ok.hd hc) p1.isList hin (by rw [List.size_toArray, ← rv.length]; exact hl) (by rw [List.size_toArray, ← rv.length]; exact hz) (fin its rv hz)
  · obtain ⟨its, rv, p1, hz⟩ := I.tuple hq
    exact ZS.unpackStar_tup (I.ok.hd hc) p1 hin (by rw [List.size_toArray, ← rv.length]; exact hl) (by rw [List.size_toArray, ← rv.length]; exact hz) (fin its rv hz)
end Z

set_option Elab.async false
set_option linter.all false
set_option maxRecDepth 100000
set_option maxHeartbeats 4000000
/-! ### starred targets, tuple += -/
namespace Z
open PySem PySem.Spec PyProof.Rows L2
section
variable {K : PySem.W.Frag} [Gd K] {X : Cx} {e : Expr} {es : List Expr} {pos : Pos}
def dGStar (n i : Nat) (g : DTGs) : DTG := fun x S C k => match rdQ x C with
  | some l => n - 1 ≤ l.length ∧ g (l.take i ++ [.lst ((l.drop i).take (l.length - i - (n - 1 - i)))] ++ l.drop (l.length - (n - 1 - i))) S C k
  | none => False
theorem qgs_star {t : TG} {d : DTG} {u : TGs} {du : DTGs} {p : Pos} (h1 : QG K X e t d) (h2 : QGs K X es u du)
    (hs : (assignEach (.Starred e p :: es) X.env).map (·.2) = assign e X.env :: (assignEach es X.env).map (·.2) := by rfl) : QGs K X (.Starred e p :: es) (gCons t u) (dGCons d du) := ⟨pgs_star h1.p h2.p hs, fun W S C σ st vs ds QD Q r q k => by
  unfold dGCons at q
  split at q
  · cases r with
    | cons v d vs ds h t =>
      exact ⟨v, vs, rfl, h1.r W S C σ st v (.of _) _ _ h q fun W1 S1 C1 σ1 e1 s1 q1 => h2.r W1 S1 C1 σ1 s1 vs _ _ _ (Reps.mono (e1.pers st.m.wrws) t) q1 (KG.ext k e1)⟩
  · exact q.elim⟩
theorem qg_star {t : TGs} {d : DTGs} {kk n i : Nat} (hK : X.K = K) (hc : X.calm = true) (h : QGs K X es t d)
    (hn : (assignEach es X.env).length = n := by rfl) (hst : (assignEach es X.env).findIdx? (·.1) = some i := by rfl) (hin : i < n := by decide) : QG K X (.Tuple es kk pos) (gStar K n i t) (dGStar n i d) := ⟨by subst hK; exact pg_star hc h.p hn hst hin, fun W S C σ st v x QD Q r q k => by
  unfold dGStar at q
  split at q
  · rename_i l hl
    obtain ⟨hz, q⟩ := q
    obtain ⟨a, us, rfl, h1, h2⟩ := rdQ_ok st.m r hl
    refine ⟨a, us, rfl, h1, by rw [h2.len]; exact hz, fun p hp => ?_⟩
    have e : us.length = l.length := h2.len
    rw [e]
    have ex : Ext W (W.new p (.lst ((us.drop i).take (l.length - i - (n - 1 - i))))) := Ext.new hp
    have h3 := Reps.mono (ex.pers st.m.wrws) h2
    refine h.r _ S C σ (st.new hp) _ _ _ _ ?_ q fun W1 S1 C1 σ1 e1 s1 q1 => k W1 S1 C1 σ1 (ex.trans e1) s1 q1
    exact ((h3.take i).app (.one (.lst p _ _ upd_same (st.m.fresh hp).1 ((h3.drop i).take _)))).app (h3.drop _)
  · exact q.elim⟩
theorem ioq_catA (hK : X.K = K) : QOp K X (inplaceOp .Add) (rCatA K) dCatT := ⟨by subst hK; exact iop_catA, refR_catT⟩
/-! x == [] -/
def dEqE (neg : Bool) : DR2 := fun x y C Q => match rdI x C, rdI y C with
  | some l, some [] => Q (.of (.bl (cond neg (!l.isEmpty) l.isEmpty))) C
  | _, _ => False
theorem refR_eqE {neg : Bool} : RefR K (rEqW K neg) (dEqE neg) := fun W S C σ st v u x y QD Q rx ry q k => by
  unfold dEqE at q
  split at q
  · rename_i l hl h0
    obtain ⟨a, us, rfl, h1, h2⟩ := rdI_ok st.m rx hl
    obtain ⟨b, ws, rfl, h3, h4⟩ := rdI_ok st.m ry h0
    cases h4
    refine ⟨1, l.isEmpty, by decide, .inr (.inl ⟨a, b, us, [], rfl, rfl, h1, h3, .inr ?_⟩), k.here st (.bl _) (by cases neg <;> exact q)⟩
    cases h2 with
    | nil => exact seqE_nil
    | cons _ _ _ _ _ _ => exact seqE_cn
  · exact q.elim
theorem oq_eqE (hK : X.K = K) (hu : X.A.units + 64 < cLine) : QOp K X (compareOp .Eq) (rEqW K false) (dEqE false) := ⟨op_eqWG hK hu, refR_eqE⟩
theorem oq_neE (hK : X.K = K) (hu : X.A.units + 64 < cLine) : QOp K X (compareOp .NotEq) (rEqW K true) (dEqE true) := ⟨op_neWG hK hu, refR_eqE⟩
end
end Z

set_option Elab.async false
set_option linter.all false
set_option maxRecDepth 100000
set_option maxHeartbeats 4000000
/-! ### macros, as plain data on codes -/
namespace Z
open PySem PySem.Spec PyProof.Rows L2
abbrev Tx := List Nat
structure PLc where
  page : Tx
  row : Int
  col : Int
deriving DecidableEq
structure MC where
  name : Tx
  params : Option (List Tx)
  body : List PC
deriving DecidableEq
def dPl (p : PLc) : D := .tup [.str p.page, .int p.row, .int p.col]
def dPrs : Option (List Tx) → D
  | none => .non
  | some l => .tup (dStrs l)
def dMc (m : MC) : D := .ins "Macro" [("name", .str m.name), ("params", dPrs m.params), ("body", .tup (dPcs m.body))]
def standsC (p : PC) : PLc := match p.signs with
  | s :: _ => ⟨s.page, s.row, s.col⟩
  | [] => ⟨[], 0, 0⟩
def isNm (z : Tx) : Bool := isL (z.getD 0 0)
abbrev cHas : Tx := [104, 97, 115]
def needName (ps : List PC) (at_ : Nat) (en : PLc) (names : List Tx) : Except PLc Tx := match ps[at_]? with
  | none => .error en
  | some p => if isNm p.text = false ∨ p.text = cHas ∨ p.text ∈ names then .error (standsC p) else .ok p.text
def needSign (ps : List PC) (at_ : Nat) (en : PLc) (signs : List Tx) : Except PLc Tx := match ps[at_]? with
  | none => .error en
  | some p => if p.text ∈ signs then .ok p.text else .error (standsC p)
def pLoop (ps : List PC) (en : PLc) : Nat → Nat → List Tx → Except PLc (List Tx × Nat)
  | 0, _, _ => .error en
  | f + 1, a, params => match needName ps a en params with
    | .error e => .error e
    | .ok n => if params.length = 8 then .error (match ps[a]? with | some p => standsC p | none => en) else
      match needSign ps (a + 1) en [[44], [41]] with
      | .error e => .error e
      | .ok s => if s = [44] then pLoop ps en f (a + 2) (params ++ [n]) else .ok (params ++ [n], a + 2)
def paramsOf (ps : List PC) (en : PLc) : Except PLc (List Tx × Nat) := match ps[2]? with
  | some p => if p.text = [41] then .ok ([], 3) else pLoop ps en ps.length 2 []
  | none => pLoop ps en ps.length 2 []
/-- the piece at a number of a body can't stand there -/
def lostAt (body : List PC) (params : List Tx) (i : Nat) (p : PC) : Bool :=
  let behind := (body.drop (i + 1)).take 1
  let lost := if p.text = [126] then decide (i = 0) || (behind.isEmpty || decide ((body.getD (i - 1) p).text = [126])) else decide (p.text = [36]) && !(behind.any fun q => decide (q.text ∈ params))
  lost || decide (i = 60)
def vetFrom (body : List PC) (params : List Tx) : Nat → List PC → Option PLc
  | _, [] => none
  | i, p :: r => if lostAt body params i p = true then some (standsC p) else vetFrom body params (i + 1) r
def vetBody (body : List PC) (params : List Tx) : Option PLc := vetFrom body params 0 body
def headOf (ps : List PC) (en : PLc) : Except PLc (Option (List Tx) × Nat) := match ps[1]? with
  | some p => if p.text = [40] then (match paramsOf ps en with | .ok q => .ok (some q.1, q.2) | .error e => .error e) else .ok (none, 1)
  | none => .ok (none, 1)
def macroOf (ps : List PC) (en : PLc) : Except PLc MC := match needName ps 0 en [] with
  | .error e => .error e
  | .ok n => match headOf ps en with
    | .error e => .error e
    | .ok (params, a) => match needSign ps a en [[61]] with
      | .error e => .error e
      | .ok _ => match vetBody (ps.drop (a + 1)) (params.getD []) with
        | some e => .error e
        | none => .ok ⟨n, params, ps.drop (a + 1)⟩
theorem macroOf_ok {ps : List PC} {en : PLc} {m : MC} (h : macroOf ps en = .ok m) : ∃ n params a s, needName ps 0 en [] = .ok n ∧ headOf ps en = .ok (params, a) ∧ needSign ps a en [[61]] = .ok s ∧ vetBody (ps.drop (a + 1)) (params.getD []) = none ∧ m = ⟨n, params, ps.drop (a + 1)⟩ := by
  unfold macroOf at h
  cases h1 : needName ps 0 en [] with
  | error e => rw [h1] at h; cases h
  | ok n =>
    rw [h1] at h
    dsimp only at h
    cases h2 : headOf ps en with
    | error e => rw [h2] at h; cases h
    | ok q =>
      obtain ⟨params, a⟩ := q
      rw [h2] at h
      dsimp only at h
      cases h3 : needSign ps a en [[61]] with
      | error e => rw [h3] at h; cases h
      | ok s =>
        rw [h3] at h
        dsimp only at h
        cases h4 : vetBody (ps.drop (a + 1)) (params.getD []) with
        | some e => rw [h4] at h; cases h
        | none =>
          rw [h4] at h
          cases h
          exact ⟨n, params, a, s, rfl, rfl, h3, h4, rfl⟩
theorem needName_ok {ps : List PC} {i : Nat} {en : PLc} {names : List Tx} {n : Tx} (h : needName ps i en names = .ok n) : ∃ p, ps[i]? = some p ∧ isNm p.text = true ∧ p.text ≠ cHas ∧ p.text ∉ names ∧ n = p.text := by
  unfold needName at h
  split at h
  · cases h
  · rename_i p hp
    by_cases g : isNm p.text = false ∨ p.text = cHas ∨ p.text ∈ names
    · rw [if_pos g] at h; cases h
    · rw [if_neg g] at h
      cases h
      refine ⟨p, hp, ?_, fun q => g (.inr (.inl q)), fun q => g (.inr (.inr q)), rfl⟩
      cases q : isNm p.text with
      | true => rfl
      | false => exact absurd (.inl q) g
theorem needSign_ok {ps : List PC} {i : Nat} {en : PLc} {signs : List Tx} {n : Tx} (h : needSign ps i en signs = .ok n) : ∃ p, ps[i]? = some p ∧ p.text ∈ signs ∧ n = p.text := by
  unfold needSign at h
  split at h
  · cases h
  · rename_i p hp
    by_cases g : p.text ∈ signs
    · rw [if_pos g] at h
      cases h
      exact ⟨p, hp, g, rfl⟩
    · rw [if_neg g] at h; cases h
/-- texts of pieces that can be asked -/
def TxOk (ps : List PC) : Prop := ∀ p ∈ ps, p.text ≠ [] ∧ p.text.length ≤ 1000000
theorem inF_strs (z : Tx) : ∀ l : List Tx, inF (.str z) (dStrs l) = decide (z ∈ l)
  | [] => by simp [inF]
  | a :: l => by
    have ih := inF_strs z l
    unfold inF at ih ⊢
    rw [show dStrs (a :: l) = D.str a :: dStrs l from rfl, List.any_cons, ih]
    have : eqF (.str a) (.str z) = decide (z = a) := by
      show (a == z) = _
      rw [Bool.eq_iff_iff]
      simp only [beq_iff_eq, decide_eq_true_eq]
      exact ⟨Eq.symm, Eq.symm⟩
    rw [this, ← Bool.decide_or, decide_eq_decide, List.mem_cons]
theorem flat_strs (l : List Tx) : (dStrs l).all flatD = true := by
  rw [List.all_map]; exact List.all_eq_true.mpr fun _ _ => rfl
theorem atPc {ps : List PC} {i : Nat} {p : PC} (h : ps[i]? = some p) : atI (dPcs ps) (i : Int) = some (dPc p) := atI_map (atN h)
/-! ### books as lists of macros -/
def eqM (a b : MC) : Bool := decide (a.name = b.name) && (decide (a.params = b.params) && decide (a.body.map (·.text) = b.body.map (·.text)))
def bkv (ms : List MC) : Kvs := ms.map fun m => (m.name, dMc m)
def bk (ms : List MC) : DC := .dob "Book" "kept" (bkv ms)
def bFind (ms : List MC) (n : Tx) : Option MC := ms.find? fun m => decide (m.name = n)
def putB (ms : List MC) (m : MC) : Option (List MC) := match bFind ms m.name with
  | some m' => if eqM m' m = true then some ms else none
  | none => if ms.length = 40 then none else some (ms ++ [m])
def macroRow (row page : Tx) (number : Int) : Option MC := match lexOf 0 row with
  | .ok t => (match macroOf (t.map (pcO page number)) ⟨page, number, row.length⟩ with | .ok m => some m | .error _ => none)
  | .error _ => none
def tellAll : Nat → List MC → List Tx → Option (List MC)
  | _, ms, [] => some ms
  | i, ms, r :: rs => match macroRow r [] i with
    | some m => (match putB ms m with | some ms' => tellAll (i + 1) ms' rs | none => none)
    | none => none
theorem bkv_val (ms : List MC) (n : Tx) : valT (bkv ms) n = (bFind ms n).map dMc := by
  unfold valT bkv bFind
  induction ms with
  | nil => rfl
  | cons m r ih =>
    rw [List.map_cons, List.find?_cons, List.find?_cons]
    by_cases h : m.name = n
    · rw [decide_eq_true h]; rfl
    · rw [decide_eq_false h]; exact ih
theorem bkv_has (ms : List MC) (n : Tx) : hasT (bkv ms) n = (bFind ms n).isSome := by
  rw [hasT_val, bkv_val, Option.isSome_map]
theorem bkv_put {ms : List MC} {m : MC} (h : bFind ms m.name = none) : putT (bkv ms) m.name (dMc m) = bkv (ms ++ [m]) := by
  unfold putT
  rw [bkv_has, h, if_neg (by simp)]
  unfold bkv
  rw [List.map_append]; rfl
theorem bFind_new {ms : List MC} {m : MC} (h : bFind ms m.name = none) : bFind (ms ++ [m]) m.name = some m := by
  unfold bFind at h ⊢
  rw [List.find?_append, h]
  simp
theorem bFind_name {ms : List MC} {n : Tx} {m : MC} (h : bFind ms n = some m) : m.name = n := by
  unfold bFind at h
  have := List.find?_some h
  simpa using this
theorem putB_len {ms ms' : List MC} {m : MC} (h : putB ms m = some ms') (hl : ms.length ≤ 40) : ms'.length ≤ 40 := by
  unfold putB at h
  split at h
  · split at h
    · cases h; exact hl
    · cases h
  · split at h
    · cases h
    · cases h; rw [List.length_append]; show ms.length + 1 ≤ 40; omega
theorem putB_find {ms ms' : List MC} {m : MC} (h : putB ms m = some ms') : ∃ m', bFind ms' m.name = some m' ∧ (m' = m ∨ eqM m' m = true) := by
  unfold putB at h
  split at h
  · rename_i m' hm
    split at h
    · rename_i he; cases h; exact ⟨m', hm, .inr he⟩
    · cases h
  · rename_i hn
    split at h
    · cases h
    · cases h; exact ⟨m, bFind_new hn, .inl rfl⟩
theorem eqDs_strs (l m : List Tx) : eqDs (dStrs l) (dStrs m) = decide (l = m) := eqDs_map eqD_str l m
theorem eqD_prs (a b : Option (List Tx)) : eqD (dPrs a) (dPrs b) = decide (a = b) := by
  cases a with
  | none => cases b with
    | none => rfl
    | some m => rfl
  | some l => cases b with
    | none => rfl
    | some m =>
      show eqDs (dStrs l) (dStrs m) = _
      rw [eqDs_strs, decide_eq_decide, Option.some.injEq]
theorem plDs_strs (n : Nat) (l : List Tx) : plDs n (dStrs l) = true := plDs_map (plD_str n) l
theorem pl_prs (a : Option (List Tx)) : plD 40 (dPrs a) = true := by
  cases a with
  | none => rfl
  | some l => exact plDs_strs 39 l
theorem tx_lex {row page : Tx} {number : Int} {t : List Tk} (h : lexOf 0 row = .ok t) (hz : row.length ≤ 100000) : TxOk (t.map (pcO page number)) ∧ (t.map (pcO page number)).length ≤ 1000000 := by
  obtain ⟨h1, h2⟩ := lex_bound _ _ _ _ (Nat.le_refl _) h
  refine ⟨fun p hp => ?_, by rw [List.length_map]; omega⟩
  obtain ⟨x, hx, rfl⟩ := List.mem_map.mp hp
  have := (h2 x hx).2
  exact ⟨lex_pos h x hx, by show x.1.length ≤ _; omega⟩
end Z

set_option Elab.async false
set_option linter.all false
set_option maxRecDepth 100000
set_option maxHeartbeats 4000000
/-! ### more rules: a text of at most one sign in a text -/
namespace Z
open PySem PySem.Spec PyProof.Rows L2
theorem occ0 (j : Str) : (Builtin.Str.occurrences j ⟨#[]⟩ 0 j.length 1).isEmpty = false := by
  rcases PySem.StrLaws.occ_head j ⟨#[]⟩ 1 (Nat.le_refl _) with ⟨_, h⟩ | ⟨i, r, h, _⟩
  · refine absurd ⟨by show 0 + 0 ≤ _; omega, ?_⟩ (h 0)
    unfold Builtin.Str.subAt
    simp
    exact .inl rfl
  · rw [h]; rfl
section
variable {K : PySem.W.Frag} [Gd K] {X : Cx}
def in1 (a b : Tx) : Bool := match a with
  | [] => true
  | c :: _ => decide (c ∈ b)
def dIn1 (neg : Bool) : DR2 := fun x y C Q => match x, y with
  | .of (.str a), .of (.str b) => a.length ≤ 1 ∧ Q (.of (.bl (cond neg (!in1 a b) (in1 a b)))) C
  | _, _ => False
def rInS (neg : Bool) : R2 := fun x y H Q => ∃ i j, x = .str i ∧ y = .str j ∧ Q (.bl (cond neg (!(!(Builtin.Str.occurrences j i 0 j.length 1).isEmpty)) (!(Builtin.Str.occurrences j i 0 j.length 1).isEmpty))) H
theorem refR_in1 {neg : Bool} : RefR K (rInS neg) (dIn1 neg) := fun W S C σ st v u x y QD Q rx ry q k => by
  unfold dIn1 at q
  split at q
  · rename_i a b
    obtain ⟨h1, q⟩ := q
    obtain ⟨z, rfl, hz⟩ := rep_str rx
    obtain ⟨w, rfl, rfl⟩ := rep_str ry
    refine ⟨z, w, rfl, rfl, k.here st (.bl _) ?_⟩
    have e : (!(Builtin.Str.occurrences w z 0 w.length 1).isEmpty) = in1 a (cl w) := by
      cases a with
      | nil =>
        have : z = ⟨#[]⟩ := by rw [str_eq, hz]
        rw [this, occ0]; rfl
      | cons c r =>
        cases r with
        | nil =>
          rw [one_of hz]
          exact PySem.StrLaws.found_one w c
        | cons d r => simp at h1
    rw [e]
    cases neg <;> exact q
  · exact q.elim
theorem oq_in_str : QOp K X (compareOp .In) (rInS false) (dIn1 false) := ⟨op_in_str, refR_in1⟩
theorem oq_notin_str : QOp K X (compareOp .NotIn) (rInS true) (dIn1 true) := ⟨op_notIn_str, refR_in1⟩
end
/-- two ways that meet again -/
theorem join_if {α : Type} {b : Bool} {t u : DTS} {E : DE} (ok : α → Prop) (S : α → Sl) (C : α → Cs) (x y : α) (h : ∀ a, ok a → dSeq t u E (S a) (C a)) (hx : b = true → ok x) (hy : b = false → ok y) : if b = true then dSeq t u E (S x) (C x) else dSeq t u E (S y) (C y) := by
  cases b with
  | true => exact iteT (h x (hx rfl))
  | false => exact iteF (h y (hy rfl))
theorem figs_ok : ((List.range 1000).all fun i => (figs (i : Int)).all isLF && decide (1 ≤ (figs (i : Int)).length ∧ (figs (i : Int)).length ≤ 3)) = true := by decide +kernel
theorem figs_n {r : Int} (r0 : 0 ≤ r) (r1 : r < 1000) : (∀ c ∈ figs r, isLF c = true) ∧ 1 ≤ (figs r).length ∧ (figs r).length ≤ 3 := by
  obtain ⟨n, rfl⟩ : ∃ n : Nat, r = (n : Nat) := ⟨r.toNat, by omega⟩
  have h := List.all_eq_true.mp figs_ok n (by rw [List.mem_range]; omega)
  rw [Bool.and_eq_true, decide_eq_true_eq] at h
  exact ⟨fun c hc => List.all_eq_true.mp h.1 c hc, h.2⟩
/-- signs out of a text, joined -/
theorem flat_onesIn {A : Tx} : ∀ {ws : List Tx}, (∀ w ∈ ws, ∃ c, w = [c] ∧ c ∈ A) → (ws.map List.length).sum = ws.length ∧ ws.flatten.length = ws.length ∧ ∀ c ∈ ws.flatten, c ∈ A
  | [], _ => ⟨rfl, rfl, fun _ h => by simp at h⟩
  | w :: ws, h => by
    obtain ⟨c, rfl, hc⟩ := h w List.mem_cons_self
    obtain ⟨h0, h1, h2⟩ := flat_onesIn fun w hw => h w (List.mem_cons_of_mem _ hw)
    refine ⟨by rw [List.map_cons, List.sum_cons, h0]; show 1 + _ = _ + 1; omega, by rw [List.flatten_cons, List.length_append, h1]; show 1 + _ = _ + 1; omega, fun d hd => ?_⟩
    rw [List.flatten_cons] at hd
    rcases List.mem_append.mp hd with q | q
    · rw [List.mem_singleton] at q; rw [q]; exact hc
    · exact h2 d q
/-! places in a body, where a goal's reckoning halts and its state is told anew: live cells behind the keep-th are forgotten, dead ones are added -/
def normC (keep N : Nat) (C : Cs) : Cs := C.take keep ++ List.replicate (N - keep) .dead
@[irreducible] def dLab (n : Nat) (t : DTS) : DTS := fun E S C => ∃ keep N, keep ≤ C.length ∧ C.length ≤ N ∧ t E S (normC keep N C)
theorem norm_ok {K : PySem.W.Frag} [Gd K] {W : Wd} {S : Sl} {C : Cs} {σ : L2.St} {keep N : Nat} (s : Sta K W S C σ) (h1 : keep ≤ C.length) (h2 : C.length ≤ N) : ∃ W', W'.H = W.H ∧ Ext W W' ∧ Sta K W' S (normC keep N C) σ := by
  have ex : Ext W { W with As := W.As ++ List.replicate (N - C.length) (0, []) } := ⟨fun _ _ h _ => h, fun _ h => h, fun _ h => .inl h, fun _ h _ _ => h, fun _ h => .inl h, rfl, _, rfl⟩
  have lk : (C.take keep).length = keep := by rw [List.length_take]; omega
  have src : ∀ (i : Nat) dc, (normC keep N C)[i]? = some dc → live dc → C[i]? = some dc := fun i dc h l => by
    unfold normC at h
    by_cases q : i < keep
    · rw [List.getElem?_append_left (by omega), List.getElem?_take_of_lt q] at h; exact h
    · rw [List.getElem?_append_right (by omega)] at h
      have := (List.mem_replicate.mp (List.mem_of_getElem? h)).2
      subst this
      exact absurd l (fun z => z)
  have srcA : ∀ (i : Nat) u dc, C[i]? = some dc → (W.As ++ List.replicate (N - C.length) ((0 : Addr), ([] : List Addr)))[i]? = some u → W.As[i]? = some u := fun i u dc h1 h2 => by
    have hi := (List.getElem?_eq_some_iff.mp h1).1
    rw [List.getElem?_append_left (by rw [← s.m.len]; exact hi)] at h2
    exact h2
  refine ⟨{ W with As := W.As ++ List.replicate (N - C.length) (0, []) }, rfl, ex, ⟨⟨s.m.wrws, s.m.pvws, s.m.dis, s.m.dom, ?_, fun i dc a fp h3 h4 h5 => ?_, fun i j dc dc' a fp a' fp' hij h3 h4 h5 h6 h7 h8 => ?_⟩, s.s.mono s.m ex, Gd.ext s.g ex⟩⟩
  · show (normC keep N C).length = (W.As ++ _).length
    unfold normC
    rw [List.length_append, List.length_append, lk, List.length_replicate, List.length_replicate, ← s.m.len]; omega
  · have h3' := src i dc h3 h5
    obtain ⟨q1, q2⟩ := s.m.cell i dc a fp h3' (srcA i _ dc h3' h4) h5
    exact ⟨q1.pers (Pers.of rfl rfl) fun _ _ => rfl, q2⟩
  · have h3' := src i dc h3 h4
    have h5' := src j dc' h5 h6
    exact s.m.sep i j dc dc' a fp a' fp' hij h3' h4 h5' h6 (srcA i _ dc h3' h7) (srcA j _ dc' h5' h8)
theorem qss_lab {K : PySem.W.Frag} [Gd K] {X : Cx} {st : List Stmt} {t : TS} {d : DTS} (n : Nat) (h : QSs K X st t d) : QSs K X st t (dLab n d) := ⟨h.p, fun W S C σ s D E q k => by
  unfold dLab at q
  obtain ⟨keep, N, h1, h2, q⟩ := q
  obtain ⟨W', hH, e, s'⟩ := norm_ok s h1 h2
  rw [← hH]
  exact h.r W' S _ σ s' D E q (k.ext e)⟩
theorem lab {n : Nat} {t : DTS} {E : DE} {S : Sl} {C : Cs} (keep N : Nat) (h1 : keep ≤ C.length) (h2 : C.length ≤ N) (h : t E S (normC keep N C)) : dLab n t E S C := by unfold dLab; exact ⟨keep, N, h1, h2, h⟩
/-- ways that meet: the state is told by a parameter; the cells ahead of the keep-th are C0 -/
theorem lab_k {α : Type} {n : Nat} {t : DTS} {E : DE} {G : Prop} (N : Nat) (ok : α → Prop) (S : α → Sl) (C0 : α → Cs) (k : (∀ a, ok a → ∀ C, C.take (C0 a).length = C0 a → (C0 a).length ≤ C.length → C.length ≤ N → dLab n t E (S a) C) → G) (h : ∀ a, ok a → t E (S a) (C0 a ++ List.replicate (N - (C0 a).length) .dead)) : G :=
  k fun a ha C e h1 h2 => lab (C0 a).length N h1 h2 (by unfold normC; rw [e]; exact h a ha)
end Z

set_option Elab.async false
set_option linter.all false
set_option maxRecDepth 100000
set_option maxHeartbeats 4000000
/-! ### zip of three things that are drawn from -/
namespace Z3
open PySem
open PySem.Sem (wp)
abbrev IsTrip (h : Heap) (T : Addr) (a b c : Value) : Prop := h.get? T = some { cls := .type "tuple", data := .seq #[a, b, c] }
section
variable {prog : Program} {w : World} {A : Around} {E : Value → Shared → Prop} {s : Shared}
theorem upd_trip {T : Addr} {a b c x : Value} {k : Nat} {Q : Unit → Shared → Prop} (hT : IsTrip s.heap T a b c)
    (h : ∀ h', h'.get? T = some { cls := .type "tuple", data := .seq ((#[a, b, c] : Array Value).setIfInBounds k x) } → Heap.SameBut T s.heap h' → Q () { s with heap := h' }) :
    wpAny (model prog w) A (updateSeq T (·.setIfInBounds k x)) Q E s := by
  refine wpAny_updateSeq hT rfl (h _ ?_ (Heap.SameBut.update ..))
  rw [Heap.get?_update_self _ hT rfl]
  simp [Obj.mapSeq]
theorem step_draw {it : Addr} {fp : List Addr} {n i : Nat} {P : Nat → Value → Prop} {St : Nat → Heap → Prop} {Q : Value → Shared → Prop} (D : Draws prog w A it fp n P St) (h0 : Heap) (tk0 : Tok) (hs : s.heap = h0) (hlt : i < n) (st : St i h0)
    (hQ : ∀ x h' tk, P i x → St (i + 1) h' → Heap.SameBut it h0 h' → Q x { s with heap := h', toks := tk }) : wpAny (model prog w) A (Builtin.SmallTypes.nextOf (.ref it)) Q E s := by
  subst hs
  exact D.item i s Q E hlt st hQ
structure Apart (z TO : Addr) (i1 i2 i3 : Addr) (f1 f2 f3 : List Addr) : Prop where
  zTO : TO ≠ z
  z1 : z ∉ f1
  z2 : z ∉ f2
  z3 : z ∉ f3
  o1 : TO ∉ f1
  o2 : TO ∉ f2
  o3 : TO ∉ f3
  a12 : i1 ∉ f2
  a13 : i1 ∉ f3
  a21 : i2 ∉ f1
  a23 : i2 ∉ f3
  a31 : i3 ∉ f1
  a32 : i3 ∉ f2
  m1 : i1 ∈ f1
  m2 : i2 ∈ f2
  m3 : i3 ∈ f3
theorem zip3_item {z TI TO i1 i2 i3 : Addr} {f1 f2 f3 : List Addr} {n1 n2 n3 k : Nat} {P1 P2 P3 : Nat → Value → Prop} {S1 S2 S3 : Nat → Heap → Prop} {a b c : Value} {Q : Value → Shared → Prop}
    (D1 : Draws prog w A i1 f1 n1 P1 S1) (D2 : Draws prog w A i2 f2 n2 P2 S2) (D3 : Draws prog w A i3 f3 n3 P3 S3) (ap : Apart z TO i1 i2 i3 f1 f2 f3)
    (hz : IsZip s.heap z TI TO .none) (hTI : IsTrip s.heap TI (.ref i1) (.ref i2) (.ref i3)) (hTO : IsTrip s.heap TO a b c) (h1 : S1 k s.heap) (h2 : S2 k s.heap) (h3 : S3 k s.heap) (l1 : k < n1) (l2 : k < n2) (l3 : k < n3)
    (hQ : ∀ x y u h' tk, P1 k x → P2 k y → P3 k u → IsZip h' z TI TO (rawInt s.heap.objs.size) → IsTrip h' TO x y u → S1 (k + 1) h' → S2 (k + 1) h' → S3 (k + 1) h' → IsTrip h' s.heap.objs.size x y u → h'.objs.size = s.heap.objs.size + 1 →
      (∀ d o, d ≠ z → d ≠ TO → d ≠ i1 → d ≠ i2 → d ≠ i3 → s.heap.get? d = some o → h'.get? d = some o) → Q (.ref s.heap.objs.size) { s with heap := h', toks := tk }) :
    wpAny (model prog w) A (Builtin.«zip.__next__» ⟨[.ref z], []⟩) (fun fin s' => ∃ v, fin = .done (.ret v) ∧ Q v s') E s := by
  have ne : ∀ {x : Addr} {l : List Addr} {y : Addr}, x ∉ l → y ∈ l → y ≠ x := fun h m e => h (e ▸ m)
  show wpAny _ _ (field (.ref z) 2 >>= _) _ _ _
  refine wpAny_bind (wpAny_field hz rfl (x := .bool false) rfl ?_)
  show wpAny _ _ (field (.ref z) 3 >>= _) _ _ _
  refine wpAny_bind (wpAny_field hz rfl (x := .ref TI) rfl ?_)
  refine wpAny_bind (wpAny_seqItems hTI rfl ?_)
  show wpAny _ _ (Builtin.SmallTypes.ownedTupleIsFree (.ref z) >>= _) _ _ _
  refine wpAny_bind ?_
  unfold Builtin.SmallTypes.ownedTupleIsFree
  refine wpAny_bind (wpAny_field hz rfl (x := .none) rfl (wpAny_pure ?_))
  simp only [if_true]
  refine wpAny_bind (wpAny_rule ?_)
  refine wpAny_bind (wpAny_field hz rfl (x := .ref TO) rfl ?_)
  refine wpAny_bind (wpAny_setField_rec hz (by simp) fun h₁ hz₁ hs₁ => ?_)
  replace hz₁ : IsZip h₁ z TI TO .ellipsis := hz₁
  refine wpAny_bind ?_
  simp only [List.zipIdx_cons, List.zipIdx_nil, List.forIn_cons, List.forIn_nil]
  have keep : ∀ {y : Addr} {h h' : Heap} {f : List Addr}, Heap.SameBut y h h' → y ∉ f → ∀ b ∈ f, ∀ o, h.get? b = some o → h'.get? b = some o := fun sb hy b hb o e => (sb.2 b fun q => hy (q ▸ hb)).trans e
  have s11 : S1 k h₁ := D1.frame _ _ _ h1 (keep hs₁ ap.z1)
  have s21 : S2 k h₁ := D2.frame _ _ _ h2 (keep hs₁ ap.z2)
  have s31 : S3 k h₁ := D3.frame _ _ _ h3 (keep hs₁ ap.z3)
  refine wpAny_bind (wpAny_bind (wpAny_onRaise ?_))
  show wpAny _ _ (Builtin.SmallTypes.nextOf (.ref i1) >>= _) _ _ _
  refine wpAny_bind (step_draw D1 h₁ s.toks rfl l1 s11 fun x h₂ t₂ p1 s12 hs₂ => wpAny_pure ?_)
  have o1 : TO ≠ i1 := fun e => ap.o1 (e ▸ ap.m1)
  have o2 : TO ≠ i2 := fun e => ap.o2 (e ▸ ap.m2)
  have o3 : TO ≠ i3 := fun e => ap.o3 (e ▸ ap.m3)
  have hTO₂ : IsTrip h₂ TO a b c := (hs₂.2 _ o1).trans ((hs₁.2 _ ap.zTO).trans hTO)
  refine wpAny_bind (wpAny_seqItems hTO₂ rfl ?_)
  refine wpAny_bind (upd_trip hTO₂ fun h₃ hTO₃ hs₃ => ?_)
  replace hTO₃ : IsTrip h₃ TO x b c := hTO₃
  refine wpAny_bind (wpAny_letGo (wpAny_pure ?_))
  have s13 : S1 (k + 1) h₃ := D1.frame _ _ _ s12 (keep hs₃ ap.o1)
  have s23 : S2 k h₃ := D2.frame _ _ _ (D2.frame _ _ _ s21 (keep hs₂ ap.a12)) (keep hs₃ ap.o2)
  have s33 : S3 k h₃ := D3.frame _ _ _ (D3.frame _ _ _ s31 (keep hs₂ ap.a13)) (keep hs₃ ap.o3)
  refine wpAny_bind (wpAny_bind (wpAny_onRaise ?_))
  show wpAny _ _ (Builtin.SmallTypes.nextOf (.ref i2) >>= _) _ _ _
  refine wpAny_bind (step_draw D2 h₃ t₂ rfl l2 s23 fun y h₄ t₄ p2 s24 hs₄ => wpAny_pure ?_)
  have hTO₄ : IsTrip h₄ TO x b c := (hs₄.2 _ o2).trans hTO₃
  refine wpAny_bind (wpAny_seqItems hTO₄ rfl ?_)
  refine wpAny_bind (upd_trip hTO₄ fun h₅ hTO₅ hs₅ => ?_)
  replace hTO₅ : IsTrip h₅ TO x y c := hTO₅
  refine wpAny_bind (wpAny_letGo (wpAny_pure ?_))
  have s15 : S1 (k + 1) h₅ := D1.frame _ _ _ (D1.frame _ _ _ s13 (keep hs₄ ap.a21)) (keep hs₅ ap.o1)
  have s25 : S2 (k + 1) h₅ := D2.frame _ _ _ s24 (keep hs₅ ap.o2)
  have s35 : S3 k h₅ := D3.frame _ _ _ (D3.frame _ _ _ s33 (keep hs₄ ap.a23)) (keep hs₅ ap.o3)
  refine wpAny_bind (wpAny_bind (wpAny_onRaise ?_))
  show wpAny _ _ (Builtin.SmallTypes.nextOf (.ref i3) >>= _) _ _ _
  refine wpAny_bind (step_draw D3 h₅ t₄ rfl l3 s35 fun u h₆ t₆ p3 s36 hs₆ => wpAny_pure ?_)
  have hTO₆ : IsTrip h₆ TO x y c := (hs₆.2 _ o3).trans hTO₅
  refine wpAny_bind (wpAny_seqItems hTO₆ rfl ?_)
  refine wpAny_bind (upd_trip hTO₆ fun h₇ hTO₇ hs₇ => ?_)
  replace hTO₇ : IsTrip h₇ TO x y u := hTO₇
  refine wpAny_bind (wpAny_letGo (wpAny_pure (wpAny_pure ?_)))
  have s17 : S1 (k + 1) h₇ := D1.frame _ _ _ (D1.frame _ _ _ s15 (keep hs₆ ap.a31)) (keep hs₇ ap.o1)
  have s27 : S2 (k + 1) h₇ := D2.frame _ _ _ (D2.frame _ _ _ s25 (keep hs₆ ap.a32)) (keep hs₇ ap.o2)
  have s37 : S3 (k + 1) h₇ := D3.frame _ _ _ s36 (keep hs₇ ap.o3)
  refine wpAny_bind (wpAny_seqItems hTO₇ rfl ?_)
  refine wpAny_bind (wpAny_newTuple ?_)
  have e1 : z ≠ i1 := fun e => ap.z1 (e ▸ ap.m1)
  have e2 : z ≠ i2 := fun e => ap.z2 (e ▸ ap.m2)
  have e3 : z ≠ i3 := fun e => ap.z3 (e ▸ ap.m3)
  have hsz : h₇.objs.size = s.heap.objs.size := by rw [hs₇.1, hs₆.1, hs₅.1, hs₄.1, hs₃.1, hs₂.1, hs₁.1]
  have hz₇ : IsZip h₇ z TI TO .ellipsis := (hs₇.2 _ ap.zTO.symm).trans ((hs₆.2 _ e3).trans ((hs₅.2 _ ap.zTO.symm).trans ((hs₄.2 _ e2).trans ((hs₃.2 _ ap.zTO.symm).trans ((hs₂.2 _ e1).trans hz₁)))))
  have hk₇ : ∀ d o, d ≠ z → d ≠ TO → d ≠ i1 → d ≠ i2 → d ≠ i3 → s.heap.get? d = some o → h₇.get? d = some o := fun d o c1 c2 c3 c4 c5 e =>
    (hs₇.2 _ c2).trans ((hs₆.2 _ c5).trans ((hs₅.2 _ c2).trans ((hs₄.2 _ c4).trans ((hs₃.2 _ c2).trans ((hs₂.2 _ c3).trans ((hs₁.2 _ c1).trans e))))))
  have hzlt : z < h₇.objs.size := Heap.lt_size hz₇
  show wpAny _ _ (Builtin.SmallTypes.ownedTupleHandOut (.ref z) (.ref h₇.objs.size) >>= _) _ _ _
  refine wpAny_bind ?_
  unfold Builtin.SmallTypes.ownedTupleHandOut
  have hz₈ : IsZip (h₇.push { cls := .type "tuple", data := .seq #[x, y, u] }) z TI TO .ellipsis := Heap.get?_push_of_some _ hz₇
  refine wpAny_bind (wpAny_setField_rec hz₈ (by simp) fun h₉ hz₉ hs₉ => ?_)
  replace hz₉ : IsZip h₉ z TI TO (rawInt h₇.objs.size) := hz₉
  refine wpAny_setField_rec hz₉ (by simp) fun h₀ hz₀ hs₀ => ?_
  replace hz₀ : IsZip h₀ z TI TO (rawInt h₇.objs.size) := hz₀
  have up : ∀ d o, d ≠ z → h₇.get? d = some o → h₀.get? d = some o := fun d o c1 e => (hs₀.2 _ c1).trans ((hs₉.2 _ c1).trans (Heap.get?_push_of_some _ e))
  have hT : IsTrip h₀ h₇.objs.size x y u := (hs₀.2 _ (Nat.ne_of_gt hzlt)).trans ((hs₉.2 _ (Nat.ne_of_gt hzlt)).trans (Heap.get?_push_size _ rfl))
  have hz0 : h₀.objs.size = h₇.objs.size + 1 := by rw [hs₀.1, hs₉.1, Heap.size_push]
  rw [hsz] at hz₀ hT hz0
  have fr : ∀ {f : List Addr}, z ∉ f → ∀ b ∈ f, ∀ o, h₇.get? b = some o → h₀.get? b = some o := fun hzf b hb o e => up b o (fun q => hzf (q ▸ hb)) e
  refine wpAny_pure ⟨_, rfl, ?_⟩
  rw [hsz]
  exact hQ x y u h₀ t₆ p1 p2 p3 hz₀ (up _ _ ap.zTO hTO₇) (D1.frame _ _ _ s17 (fr ap.z1)) (D2.frame _ _ _ s27 (fr ap.z2)) (D3.frame _ _ _ s37 (fr ap.z3)) hT hz0 fun d o c1 c2 c3 c4 c5 e => up d o c1 (hk₇ d o c1 c2 c3 c4 c5 e)
theorem step_end {it : Addr} {fp : List Addr} {n : Nat} {P : Nat → Value → Prop} {St : Nat → Heap → Prop} {Q : Value → Shared → Prop} (D : Draws prog w A it fp n P St) (h0 : Heap) (tk0 : Tok) (hs : s.heap = h0) (ht : s.toks = tk0) (st : St n h0)
    (hE : ∀ h' e, Heap.ExtBut it h0 h' → (∃ o, h'.get? e = some o ∧ o.cls = .type "StopIteration") → E (.ref e) { s with heap := h', toks := tk0 }) : wpAny (model prog w) A (Builtin.SmallTypes.nextOf (.ref it)) Q E s := by
  subst hs ht
  exact D.done s Q E st fun h' e a b => hE h' e a b
theorem zip3_end {z TI TO i1 i2 i3 : Addr} {f1 f2 f3 : List Addr} {n1 n2 n3 k : Nat} {P1 P2 P3 : Nat → Value → Prop} {S1 S2 S3 : Nat → Heap → Prop} {a b c : Value} {Q : Fin → Shared → Prop}
    (D1 : Draws prog w A i1 f1 n1 P1 S1) (D2 : Draws prog w A i2 f2 n2 P2 S2) (D3 : Draws prog w A i3 f3 n3 P3 S3) (ap : Apart z TO i1 i2 i3 f1 f2 f3)
    (hz : IsZip s.heap z TI TO .none) (hTI : IsTrip s.heap TI (.ref i1) (.ref i2) (.ref i3)) (hTO : IsTrip s.heap TO a b c) (h1 : S1 k s.heap) (h2 : S2 k s.heap) (h3 : S3 k s.heap) (hend : k = n1 ∨ (k < n1 ∧ k = n2) ∨ (k < n1 ∧ k < n2 ∧ k = n3))
    (hE : ∀ h' e tk, (∀ d o, d ≠ z → d ≠ TO → d ≠ i1 → d ≠ i2 → d ≠ i3 → s.heap.get? d = some o → h'.get? d = some o) → (∃ o, h'.get? e = some o ∧ o.cls = .type "StopIteration") → E (.ref e) { s with heap := h', toks := tk }) :
    wpAny (model prog w) A (Builtin.«zip.__next__» ⟨[.ref z], []⟩) Q E s := by
  have ne : ∀ {x : Addr} {l : List Addr} {y : Addr}, x ∉ l → y ∈ l → y ≠ x := fun h m e => h (e ▸ m)
  show wpAny _ _ (field (.ref z) 2 >>= _) _ _ _
  refine wpAny_bind (wpAny_field hz rfl (x := .bool false) rfl ?_)
  show wpAny _ _ (field (.ref z) 3 >>= _) _ _ _
  refine wpAny_bind (wpAny_field hz rfl (x := .ref TI) rfl ?_)
  refine wpAny_bind (wpAny_seqItems hTI rfl ?_)
  show wpAny _ _ (Builtin.SmallTypes.ownedTupleIsFree (.ref z) >>= _) _ _ _
  refine wpAny_bind ?_
  unfold Builtin.SmallTypes.ownedTupleIsFree
  refine wpAny_bind (wpAny_field hz rfl (x := .none) rfl (wpAny_pure ?_))
  simp only [if_true]
  refine wpAny_bind (wpAny_rule ?_)
  refine wpAny_bind (wpAny_field hz rfl (x := .ref TO) rfl ?_)
  refine wpAny_bind (wpAny_setField_rec hz (by simp) fun h₁ hz₁ hs₁ => ?_)
  replace hz₁ : IsZip h₁ z TI TO .ellipsis := hz₁
  refine wpAny_bind ?_
  simp only [List.zipIdx_cons, List.zipIdx_nil, List.forIn_cons, List.forIn_nil]
  have keep : ∀ {y : Addr} {h h' : Heap} {f : List Addr}, Heap.SameBut y h h' → y ∉ f → ∀ b ∈ f, ∀ o, h.get? b = some o → h'.get? b = some o := fun sb hy b hb o e => (sb.2 b fun q => hy (q ▸ hb)).trans e
  have s11 : S1 k h₁ := D1.frame _ _ _ h1 (keep hs₁ ap.z1)
  have s21 : S2 k h₁ := D2.frame _ _ _ h2 (keep hs₁ ap.z2)
  have s31 : S3 k h₁ := D3.frame _ _ _ h3 (keep hs₁ ap.z3)
  have o1 : TO ≠ i1 := fun e => ap.o1 (e ▸ ap.m1)
  have o2 : TO ≠ i2 := fun e => ap.o2 (e ▸ ap.m2)
  have o3 : TO ≠ i3 := fun e => ap.o3 (e ▸ ap.m3)
  have e1 : z ≠ i1 := fun e => ap.z1 (e ▸ ap.m1)
  have e2 : z ≠ i2 := fun e => ap.z2 (e ▸ ap.m2)
  have e3 : z ≠ i3 := fun e => ap.z3 (e ▸ ap.m3)
  refine wpAny_bind (wpAny_bind (wpAny_onRaise ?_))
  show wpAny _ _ (Builtin.SmallTypes.nextOf (.ref i1) >>= _) _ _ _
  by_cases c1 : k = n1
  · subst c1
    refine wpAny_bind (step_end D1 h₁ s.toks rfl rfl s11 fun h₂ e hs₂ he => ?_)
    obtain ⟨oe, hoe, hce⟩ := he
    have hz₂ : IsZip h₂ z TI TO .ellipsis := hs₂ _ _ e1 hz₁
    have hez : e ≠ z := fun x => by subst x; rw [hz₂] at hoe; cases hoe; simp at hce
    refine wpAny_setField_rec hz₂ (by simp) fun h₃ _ hs₃ => hE h₃ e _ (fun d o d1 _ d3 _ _ x => hs₃.extBut _ _ d1 (hs₂ _ _ d3 (hs₁.extBut _ _ d1 x))) ⟨oe, hs₃.extBut _ _ hez hoe, hce⟩
  have l1 : k < n1 := by omega
  refine wpAny_bind (step_draw D1 h₁ s.toks rfl l1 s11 fun x h₂ t₂ p1 s12 hs₂ => wpAny_pure ?_)
  have hTO₂ : IsTrip h₂ TO a b c := (hs₂.2 _ o1).trans ((hs₁.2 _ ap.zTO).trans hTO)
  refine wpAny_bind (wpAny_seqItems hTO₂ rfl ?_)
  refine wpAny_bind (upd_trip hTO₂ fun h₃ hTO₃ hs₃ => ?_)
  replace hTO₃ : IsTrip h₃ TO x b c := hTO₃
  refine wpAny_bind (wpAny_letGo (wpAny_pure ?_))
  have s23 : S2 k h₃ := D2.frame _ _ _ (D2.frame _ _ _ s21 (keep hs₂ ap.a12)) (keep hs₃ ap.o2)
  have s33 : S3 k h₃ := D3.frame _ _ _ (D3.frame _ _ _ s31 (keep hs₂ ap.a13)) (keep hs₃ ap.o3)
  have hz₃ : IsZip h₃ z TI TO .ellipsis := (hs₃.2 _ ap.zTO.symm).trans ((hs₂.2 _ e1).trans hz₁)
  refine wpAny_bind (wpAny_bind (wpAny_onRaise ?_))
  show wpAny _ _ (Builtin.SmallTypes.nextOf (.ref i2) >>= _) _ _ _
  by_cases c2 : k = n2
  · subst c2
    refine wpAny_bind (step_end D2 h₃ t₂ rfl rfl s23 fun h₄ e hs₄ he => ?_)
    obtain ⟨oe, hoe, hce⟩ := he
    have hz₄ : IsZip h₄ z TI TO .ellipsis := hs₄ _ _ e2 hz₃
    have hez : e ≠ z := fun x => by subst x; rw [hz₄] at hoe; cases hoe; simp at hce
    refine wpAny_setField_rec hz₄ (by simp) fun h₅ _ hs₅ => hE h₅ e _ (fun d o d1 d2 d3 d4 _ x => hs₅.extBut _ _ d1 (hs₄ _ _ d4 (hs₃.extBut _ _ d2 (hs₂.extBut _ _ d3 (hs₁.extBut _ _ d1 x))))) ⟨oe, hs₅.extBut _ _ hez hoe, hce⟩
  have l2 : k < n2 := by omega
  have hk3 : k = n3 := by omega
  refine wpAny_bind (step_draw D2 h₃ t₂ rfl l2 s23 fun y h₄ t₄ p2 s24 hs₄ => wpAny_pure ?_)
  have hTO₄ : IsTrip h₄ TO x b c := (hs₄.2 _ o2).trans hTO₃
  refine wpAny_bind (wpAny_seqItems hTO₄ rfl ?_)
  refine wpAny_bind (upd_trip hTO₄ fun h₅ hTO₅ hs₅ => ?_)
  refine wpAny_bind (wpAny_letGo (wpAny_pure ?_))
  have s35 : S3 k h₅ := D3.frame _ _ _ (D3.frame _ _ _ s33 (keep hs₄ ap.a23)) (keep hs₅ ap.o3)
  have hz₅ : IsZip h₅ z TI TO .ellipsis := (hs₅.2 _ ap.zTO.symm).trans ((hs₄.2 _ e2).trans hz₃)
  refine wpAny_bind (wpAny_bind (wpAny_onRaise ?_))
  show wpAny _ _ (Builtin.SmallTypes.nextOf (.ref i3) >>= _) _ _ _
  subst hk3
  refine wpAny_bind (step_end D3 h₅ t₄ rfl rfl s35 fun h₆ e hs₆ he => ?_)
  obtain ⟨oe, hoe, hce⟩ := he
  have hz₆ : IsZip h₆ z TI TO .ellipsis := hs₆ _ _ e3 hz₅
  have hez : e ≠ z := fun x => by subst x; rw [hz₆] at hoe; cases hoe; simp at hce
  exact wpAny_setField_rec hz₆ (by simp) fun h₇ _ hs₇ => hE h₇ e _ (fun d o d1 d2 d3 d4 d5 x => hs₇.extBut _ _ d1 (hs₆ _ _ d5 (hs₅.extBut _ _ d2 (hs₄.extBut _ _ d4 (hs₃.extBut _ _ d2 (hs₂.extBut _ _ d3 (hs₁.extBut _ _ d1 x))))))) ⟨oe, hs₇.extBut _ _ hez hoe, hce⟩
theorem pyNext3_item {z TI TO i1 i2 i3 : Addr} {f1 f2 f3 : List Addr} {n1 n2 n3 k : Nat} {P1 P2 P3 : Nat → Value → Prop} {S1 S2 S3 : Nat → Heap → Prop} {a b c : Value} {Q : Option Value → Shared → Prop}
    (D1 : Draws prog w A.in1 i1 f1 n1 P1 S1) (D2 : Draws prog w A.in1 i2 f2 n2 P2 S2) (D3 : Draws prog w A.in1 i3 f3 n3 P3 S3) (ap : Apart z TO i1 i2 i3 f1 f2 f3)
    (hz : IsZip s.heap z TI TO .none) (hTI : IsTrip s.heap TI (.ref i1) (.ref i2) (.ref i3)) (hTO : IsTrip s.heap TO a b c) (h1 : S1 k s.heap) (h2 : S2 k s.heap) (h3 : S3 k s.heap) (l1 : k < n1) (l2 : k < n2) (l3 : k < n3)
    (hQ : ∀ x y u h' tk, P1 k x → P2 k y → P3 k u → IsZip h' z TI TO (rawInt s.heap.objs.size) → IsTrip h' TO x y u → S1 (k + 1) h' → S2 (k + 1) h' → S3 (k + 1) h' → IsTrip h' s.heap.objs.size x y u → h'.objs.size = s.heap.objs.size + 1 →
      (∀ d o, d ≠ z → d ≠ TO → d ≠ i1 → d ≠ i2 → d ≠ i3 → s.heap.get? d = some o → h'.get? d = some o) → Q (some (.ref s.heap.objs.size)) { s with heap := h', toks := tk }) :
    wpAny (model prog w) A (pyNext (.ref z)) Q E s := by
  have hT : s.TypeIs (.ref z) "zip" := ⟨_, hz, rfl⟩
  unfold pyNext
  exact wpAny_bind (wpAny_attempt (wpAny_callSpecial?_slot (name := Str.ofString "__next__") hT F.slot_zip_next
    (wpAny_call_entry F.slot_zip_next hT F.entry_zip_next
      (zip3_item D1 D2 D3 ap hz hTI hTO h1 h2 h3 l1 l2 l3 fun x y u h' tk a1 a2 a3 a4 a5 a6 a7 a8 a9 a10 a11 => wpAny_pure (hQ x y u h' tk a1 a2 a3 a4 a5 a6 a7 a8 a9 a10 a11)) (F.args_zip_next_1 _))))
theorem pyNext3_end {z TI TO i1 i2 i3 : Addr} {f1 f2 f3 : List Addr} {n1 n2 n3 k : Nat} {P1 P2 P3 : Nat → Value → Prop} {S1 S2 S3 : Nat → Heap → Prop} {a b c : Value} {Q : Option Value → Shared → Prop}
    (D1 : Draws prog w A.in1 i1 f1 n1 P1 S1) (D2 : Draws prog w A.in1 i2 f2 n2 P2 S2) (D3 : Draws prog w A.in1 i3 f3 n3 P3 S3) (ap : Apart z TO i1 i2 i3 f1 f2 f3)
    (hz : IsZip s.heap z TI TO .none) (hTI : IsTrip s.heap TI (.ref i1) (.ref i2) (.ref i3)) (hTO : IsTrip s.heap TO a b c) (h1 : S1 k s.heap) (h2 : S2 k s.heap) (h3 : S3 k s.heap) (hend : k = n1 ∨ (k < n1 ∧ k = n2) ∨ (k < n1 ∧ k < n2 ∧ k = n3))
    (hQ : ∀ h' tk, (∀ d o, d ≠ z → d ≠ TO → d ≠ i1 → d ≠ i2 → d ≠ i3 → s.heap.get? d = some o → h'.get? d = some o) → Q none { s with heap := h', toks := tk }) : wpAny (model prog w) A (pyNext (.ref z)) Q E s := by
  have hT : s.TypeIs (.ref z) "zip" := ⟨_, hz, rfl⟩
  unfold pyNext
  refine wpAny_bind (wpAny_attempt (wpAny_callSpecial?_slot (name := Str.ofString "__next__") hT F.slot_zip_next
    (wpAny_call_entry F.slot_zip_next hT F.entry_zip_next (zip3_end D1 D2 D3 ap hz hTI hTO h1 h2 h3 hend fun h' e tk hk he => ?_) (F.args_zip_next_1 _))))
  obtain ⟨o, ho, hc⟩ := he
  refine wpAny_bind (wpAny_isInstance (T := "StopIteration") (b := true) ⟨o, ho, hc⟩ isSubtype_stop ?_)
  exact wpAny_pure (hQ _ _ hk)
end
/-! zip made: of three, each a list or a tuple -/
/-- a list or a tuple -/
inductive Src where
  | l (a : Addr) | t (a : Addr)
def Src.a : Src → Addr
  | .l a => a
  | .t a => a
def Src.it : Src → Obj
  | .l a => { cls := .type "list_iterator", data := .fields #[.ref a, .int 0 0] }
  | .t a => { cls := .type "tuple_iterator", data := .fields #[.ref a, .int 0 0] }
def Src.Is (h : Heap) (items : Array Value) : Src → Prop
  | .l a => h.IsList a items
  | .t a => h.IsTuple a items
def Src.St (h : Heap) (it : Addr) (i : Nat) : Src → Prop
  | .l a => h.IsListIter it a i
  | .t a => h.IsTupleIter it a i
theorem Src.Is.push {h : Heap} {items : Array Value} {x : Src} (p : x.Is h items) (o : Obj) : x.Is (h.push o) items := by
  cases x with
  | l a => exact Heap.IsList.push p o
  | t a =>
    obtain ⟨u, e, r⟩ := p
    exact ⟨u, Heap.get?_push_of_some _ e, r⟩
theorem Src.Is.at {h h' : Heap} {items : Array Value} {x : Src} (p : x.Is h items) (k : ∀ o, h.get? x.a = some o → h'.get? x.a = some o) : x.Is h' items := by
  cases x with
  | l a => exact Heap.IsList.at p k
  | t a =>
    obtain ⟨u, e, r⟩ := p
    exact ⟨u, k _ e, r⟩
theorem Src.Is.lt {h : Heap} {items : Array Value} {x : Src} (p : x.Is h items) : x.a < h.objs.size := by
  cases x with
  | l a =>
    obtain ⟨u, e, r⟩ := p
    exact Heap.lt_size e
  | t a =>
    obtain ⟨u, e, r⟩ := p
    exact Heap.lt_size e
theorem Src.it_free (x : Src) : x.it.isFreed = false := by cases x <;> rfl
section
variable {prog : Program} {w : World} {A : Around} {E : Value → Shared → Prop} {s : Shared}
theorem wpAny_pyIter_src {x : Src} {items : Array Value} {Q : Value → Shared → Prop} (hx : x.Is s.heap items) (hQ : Q (.ref s.heap.objs.size) { s with heap := s.heap.push x.it }) : wpAny (model prog w) A (pyIter (.ref x.a)) Q E s := by
  cases x with
  | l a => exact wpAny_pyIter_list hx hQ
  | t a => exact wpAny_pyIter_tuple hx hQ
end
theorem Src.St.at {h h' : Heap} {it : Addr} {i : Nat} {x : Src} (p : x.St h it i) (k : ∀ o, h.get? it = some o → h'.get? it = some o) : x.St h' it i := by
  cases x with
  | l a => exact Heap.IsListIter.at p k
  | t a => exact Heap.IsTupleIter.at p k
theorem Src.St.new {h : Heap} {it : Addr} {x : Src} (g : h.get? it = some x.it) : x.St h it 0 := by
  cases x with
  | l a => exact ⟨_, g, rfl, rfl⟩
  | t a => exact ⟨_, g, rfl, rfl⟩
theorem Src.St.obj {h : Heap} {it : Addr} {i : Nat} {x : Src} (p : x.St h it i) : ∃ o, h.get? it = some o ∧ ∀ v, o.data ≠ .cell v := by
  cases x with
  | l a => obtain ⟨o, e, _, d⟩ := p; exact ⟨o, e, fun v q => by rw [d] at q; cases q⟩
  | t a => obtain ⟨o, e, _, d⟩ := p; exact ⟨o, e, fun v q => by rw [d] at q; cases q⟩
theorem Src.St.ne {h : Heap} {it : Addr} {i : Nat} {x : Src} {y : Src} {items : Array Value} (p : x.St h it i) (q : y.Is h items) : y.a ≠ it := fun z => by
  have c1 : ∃ o, h.get? it = some o ∧ (o.cls = .type "list_iterator" ∨ o.cls = .type "tuple_iterator") := by
    cases x with
    | l a => obtain ⟨o, e, c, d⟩ := p; exact ⟨o, e, .inl c⟩
    | t a => obtain ⟨o, e, c, d⟩ := p; exact ⟨o, e, .inr c⟩
  have c2 : ∃ o, h.get? y.a = some o ∧ (o.cls = .type "list" ∨ o.cls = .type "tuple") := by
    cases y with
    | l a => obtain ⟨o, e, c, d⟩ := q; exact ⟨o, e, .inl c⟩
    | t a => obtain ⟨o, e, c, d⟩ := q; exact ⟨o, e, .inr c⟩
  obtain ⟨o1, e1, c1⟩ := c1
  obtain ⟨o2, e2, c2⟩ := c2
  rw [z, e1] at e2
  cases e2
  rcases c1 with c1 | c1 <;> rcases c2 with c2 | c2 <;> (rw [c1] at c2; injection c2 with c2; exact absurd c2 (by decide))
theorem draws_src {prog : Program} {w : World} {A : Around} {it : Addr} {x : Src} {items : List Value} (hh : A.handled = none) (hne : x.a ≠ it) :
    Draws prog w A it [it, x.a] items.length (fun i v => items[i]? = some v) (fun i h => x.St h it i ∧ x.Is h items.toArray) := by
  cases x with
  | l a =>
    have q := Draws.list (prog := prog) (w := w) (A := A) hh it a hne items.toArray
    show Draws prog w A it [it, a] items.length (fun i v => items[i]? = some v) fun i h => h.IsListIter it a i ∧ h.IsList a items.toArray
    simpa using q
  | t a => exact Z.draws_tup hh hne
abbrev T1 (h : Heap) (x : Src) : Heap := h.push x.it
abbrev T2 (h : Heap) (x y : Src) : Heap := (T1 h x).push y.it
abbrev T3 (h : Heap) (x y u : Src) : Heap := (T2 h x y).push u.it
abbrev T4 (h : Heap) (x y u : Src) : Heap := (T3 h x y u).push { cls := .type "tuple", data := .seq #[.ref h.objs.size, .ref (T1 h x).objs.size, .ref (T2 h x y).objs.size] }
abbrev T5 (h : Heap) (x y u : Src) : Heap := (T4 h x y u).push { cls := .type "tuple", data := .seq #[.none, .none, .none] }
abbrev T6 (h : Heap) (x y u : Src) : Heap := (T5 h x y u).push { cls := .type "zip", data := .fields #[.none, .bool false, .bool false, .ref (T3 h x y u).objs.size, .ref (T4 h x y u).objs.size] }
theorem meets_z3 (x y u : Src) (xs ys us : Array Value) :
    Meets (Builtin.«zip.__new__» ⟨[.type "zip", .ref x.a, .ref y.a, .ref u.a], []⟩) (fun _ R s => x.Is s.heap xs ∧ y.Is s.heap ys ∧ u.Is s.heap us ∧
      R (.ok (.ret (.ref (T5 s.heap x y u).objs.size))) { s with heap := T6 s.heap x y u }) :=
  .of_wp fun prog w A R s h => by
    obtain ⟨hp, g, d, tk, os⟩ := s; obtain ⟨hl1, hl2, hl3, h⟩ := h
    have hsub := sub_zip
    have hL1 : x.Is (Shared.heap ⟨hp, g, d, tk, os⟩) xs := hl1
    have hL2 : y.Is (Shared.heap ⟨T1 hp x, g, d, tk, os⟩) ys := hl2.push _
    have hL3 : u.Is (Shared.heap ⟨T2 hp x y, g, d, tk, os⟩) us := (hl3.push _).push _
    wp_walk using wpAny_pyIter_src hL1, wpAny_pyIter_src hL2, wpAny_pyIter_src hL3
    exact ⟨_, rfl, h⟩
theorem typeCall3 (a b c : Value) : checkTypeCall "zip" ⟨[a, b, c], []⟩ = pure () := by kernel_rfl
theorem newCall3 (a b c : Value) : checkBuiltinCall "zip.__new__" ⟨[.type "zip", a, b, c], []⟩ = pure () := by kernel_rfl
section
variable {prog : Program} {w : World} {A : Around} {E : Value → Shared → Prop} {s : Shared}
theorem call_z3 {x y u : Src} {xs ys us : Array Value} {Q : Value → Shared → Prop} (hx : x.Is s.heap xs) (hy : y.Is s.heap ys) (hu : u.Is s.heap us)
    (h : ∀ h', IsZip h' (s.heap.objs.size + 5) (s.heap.objs.size + 3) (s.heap.objs.size + 4) .none → IsTrip h' (s.heap.objs.size + 3) (.ref s.heap.objs.size) (.ref (s.heap.objs.size + 1)) (.ref (s.heap.objs.size + 2)) →
      IsTrip h' (s.heap.objs.size + 4) .none .none .none → x.St h' s.heap.objs.size 0 → y.St h' (s.heap.objs.size + 1) 0 → u.St h' (s.heap.objs.size + 2) 0 → h'.objs.size = s.heap.objs.size + 6 →
      (∀ c o, s.heap.get? c = some o → h'.get? c = some o) → Q (.ref (s.heap.objs.size + 5)) { s with heap := h' }) :
    wpAny (model prog w) A (call (.type "zip") [.ref x.a, .ref y.a, .ref u.a]) Q E s := by
  refine callType_new F.called_zip (by decide) (typeCall3 _ _ _) (newCall3 _ _ _) (fun obj => F.args_object_init_4 obj _ _ _) F.entry_zip_new
    (meets_z3 x y u xs ys us) ⟨hx, hy, hu, ?_⟩
  have z1 : (T1 s.heap x).objs.size = s.heap.objs.size + 1 := Heap.size_push ..
  have z2 : (T2 s.heap x y).objs.size = s.heap.objs.size + 2 := by rw [Heap.size_push, z1]
  have z3 : (T3 s.heap x y u).objs.size = s.heap.objs.size + 3 := by rw [Heap.size_push, z2]
  have z4 : (T4 s.heap x y u).objs.size = s.heap.objs.size + 4 := by rw [Heap.size_push, z3]
  have z5 : (T5 s.heap x y u).objs.size = s.heap.objs.size + 5 := by rw [Heap.size_push, z4]
  have z6 : (T6 s.heap x y u).objs.size = s.heap.objs.size + 6 := by rw [Heap.size_push, z5]
  have g6 : (T6 s.heap x y u).get? (T5 s.heap x y u).objs.size = some _ := Heap.get?_push_size _ rfl
  have g5 : (T6 s.heap x y u).get? (T4 s.heap x y u).objs.size = some _ := Heap.get?_push_of_some _ (Heap.get?_push_size _ rfl)
  have g4 : (T6 s.heap x y u).get? (T3 s.heap x y u).objs.size = some _ := Heap.get?_push_of_some _ (Heap.get?_push_of_some _ (Heap.get?_push_size _ rfl))
  have g3 : (T6 s.heap x y u).get? (T2 s.heap x y).objs.size = some u.it := Heap.get?_push_of_some _ (Heap.get?_push_of_some _ (Heap.get?_push_of_some _ (Heap.get?_push_size _ u.it_free)))
  have g2 : (T6 s.heap x y u).get? (T1 s.heap x).objs.size = some y.it := Heap.get?_push_of_some _ (Heap.get?_push_of_some _ (Heap.get?_push_of_some _ (Heap.get?_push_of_some _ (Heap.get?_push_size _ y.it_free))))
  have g1 : (T6 s.heap x y u).get? s.heap.objs.size = some x.it := Heap.get?_push_of_some _ (Heap.get?_push_of_some _ (Heap.get?_push_of_some _ (Heap.get?_push_of_some _ (Heap.get?_push_of_some _ (Heap.get?_push_size _ x.it_free)))))
  show _ ∧ _
  rw [z3, z4, z5] at g6
  rw [z1, z2, z3] at g4
  rw [z4] at g5
  rw [z2] at g3
  rw [z1] at g2
  rw [z5]
  exact ⟨⟨_, g6, rfl⟩, h _ g6 g4 g5 (.new g1) (.new g2) (.new g3) z6 fun c o e =>
    Heap.get?_push_of_some _ (Heap.get?_push_of_some _ (Heap.get?_push_of_some _ (Heap.get?_push_of_some _ (Heap.get?_push_of_some _ (Heap.get?_push_of_some _ e)))))⟩
end
end Z3
namespace Z
open PySem PySem.Spec PyProof.Rows L2 Z3
/-! zip of three as what is walked -/
def SrcV (K : PySem.W.Frag) (H : Hp) (x : Src) (xs : List V) : Prop := match x with
  | .l a => SqL K H a xs
  | .t a => SqT K H a xs
theorem SrcV.get {X : Cx} {pins : List (Addr × Obj)} {σ : L2.St} {H : Hp} {s : Shared} {x : Src} {xs : List V} (I : Inv X pins σ H s) (h : SrcV X.K H x xs) : ∃ its, Vals xs its ∧ x.Is s.heap its.toArray := by
  cases x with
  | l a => obtain ⟨its, rv, p, _⟩ := I.list h; exact ⟨its, rv, p.isList⟩
  | t a => obtain ⟨its, rv, p, _⟩ := I.tuple h; exact ⟨its, rv, p⟩
theorem SrcV.inj {X : Cx} {pins : List (Addr × Obj)} {σ : L2.St} {H : Hp} {s : Shared} {x : Src} {xs ys : List V} (I : Inv X pins σ H s) (h : SrcV X.K H x xs) (h' : SrcV X.K H x ys) : xs = ys := by
  cases x with
  | l a => exact I.list_inj h h'
  | t a => exact I.tuple_inj h h'
def ItZ3 (K : PySem.W.Frag) (x y u : Src) : It :=
  ⟨fun i H => ∃ (xs ys us : List V) (a b c : V), SrcV K H x xs ∧ SrcV K H y ys ∧ SrcV K H u us ∧ xs[i]? = some a ∧ ys[i]? = some b ∧ us[i]? = some c,
    fun i H v H' => ∃ T a b c, v = .ref T ∧ H T = none ∧ H' = upd H T (.tup [a, b, c]) ∧ (∀ xs, SrcV K H x xs → xs[i]? = some a) ∧ (∀ ys, SrcV K H y ys → ys[i]? = some b) ∧ ∀ us, SrcV K H u us → us[i]? = some c,
    fun i H => ∃ xs ys us : List V, SrcV K H x xs ∧ SrcV K H y ys ∧ SrcV K H u us ∧ i ≤ xs.length ∧ i ≤ ys.length ∧ i ≤ us.length ∧ (xs.length = i ∨ ys.length = i ∨ us.length = i)⟩
structure Ap3 (z TI TO i1 i2 i3 : Addr) : Prop where
  a1 : z ≠ TI
  a2 : z ≠ TO
  a3 : z ≠ i1
  a4 : z ≠ i2
  a5 : z ≠ i3
  b2 : TI ≠ TO
  b3 : TI ≠ i1
  b4 : TI ≠ i2
  b5 : TI ≠ i3
  c3 : TO ≠ i1
  c4 : TO ≠ i2
  c5 : TO ≠ i3
  d1 : i1 ≠ i2
  d2 : i1 ≠ i3
  d3 : i2 ≠ i3
theorem Src.ne_tup {h : Heap} {T : Addr} {a b c : Value} {x : Src} {items : Array Value} {z TI TO f : Addr} (p : x.Is h items) : True := trivial
/-- the zip's own things are none of the things drawn from -/
structure Off (x : Src) (z TI TO i1 i2 i3 : Addr) : Prop where
  z : x.a ≠ z
  ti : x.a ≠ TI
  to : x.a ≠ TO
  i1 : x.a ≠ i1
  i2 : x.a ≠ i2
  i3 : x.a ≠ i3
theorem ap_of {x y u : Src} {z TI TO i1 i2 i3 : Addr} (p : Ap3 z TI TO i1 i2 i3) (ox : Off x z TI TO i1 i2 i3) (oy : Off y z TI TO i1 i2 i3) (ou : Off u z TI TO i1 i2 i3) : Apart z TO i1 i2 i3 [i1, x.a] [i2, y.a] [i3, u.a] :=
  ⟨p.a2.symm, by simp [p.a3, ox.z.symm], by simp [p.a4, oy.z.symm], by simp [p.a5, ou.z.symm], by simp [p.c3, ox.to.symm], by simp [p.c4, oy.to.symm], by simp [p.c5, ou.to.symm],
    by simp [p.d1, oy.i1.symm], by simp [p.d2, ou.i1.symm], by simp [p.d1.symm, ox.i2.symm], by simp [p.d3, ou.i2.symm], by simp [p.d2.symm, ox.i3.symm], by simp [p.d3.symm, oy.i3.symm], by simp, by simp, by simp⟩
theorem turn_z3 {P : Program} {w : World} {K : PySem.W.Frag} {elts : List Expr} {kk : Nat} {tpos : Pos} {x y u : Src} {z TI TO i1 i2 i3 : Addr} (D : Ap3 z TI TO i1 i2 i3) (ox : Off x z TI TO i1 i2 i3) (oy : Off y z TI TO i1 i2 i3) (ou : Off u z TI TO i1 i2 i3) :
    Turn P w K (.Tuple elts kk tpos) (ItZ3 K x y u) [z, TI, TO, i1, i2, i3] z (fun i h => IsZip h z TI TO .none ∧ IsTrip h TI (.ref i1) (.ref i2) (.ref i3) ∧ (∃ a b c, IsTrip h TO a b c) ∧ x.St h i1 i ∧ y.St h i2 i ∧ u.St h i3 i) where
  mem := by simp
  obj := fun i h st c hc => by
    obtain ⟨hz, hTI, ⟨a, b, c', hTO⟩, h1, h2, h3⟩ := st
    have e' : c = z ∨ c = TI ∨ c = TO ∨ c = i1 ∨ c = i2 ∨ c = i3 := by simpa using hc
    rcases e' with q | q | q | q | q | q
    · rw [q]; exact ⟨_, hz, fun v q => nomatch q⟩
    · rw [q]; exact ⟨_, hTI, fun v q => nomatch q⟩
    · rw [q]; exact ⟨_, hTO, fun v q => nomatch q⟩
    · rw [q]; exact h1.obj
    · rw [q]; exact h2.obj
    · rw [q]; exact h3.obj
  keep := fun i h h' st k => by
    obtain ⟨hz, hTI, ⟨a, b, c', hTO⟩, h1, h2, h3⟩ := st
    exact ⟨k z (by simp) _ hz, k TI (by simp) _ hTI, ⟨a, b, c', k TO (by simp) _ hTO⟩, h1.at fun o q => k i1 (by simp) o q, h2.at fun o q => k i2 (by simp) o q, h3.at fun o q => k i3 (by simp) o q⟩
  item := by
    intro X hP hw hK hc i pins s σ H E I hf st hg
    subst hP hw hK
    obtain ⟨hz, hTI, ⟨a0, b0, c0, hTO⟩, h1, h2, h3⟩ := st
    obtain ⟨xs, ys, us, a, b, c, hqx, hqy, hqu, hx, hy, hu⟩ := hg
    obtain ⟨it1, rv1, p1⟩ := hqx.get I
    obtain ⟨it2, rv2, p2⟩ := hqy.get I
    obtain ⟨it3, rv3, p3⟩ := hqu.get I
    obtain ⟨v1, hv1, r1⟩ := rv1.get hx
    obtain ⟨v2, hv2, r2⟩ := rv2.get hy
    obtain ⟨v3, hv3, r3⟩ := rv3.get hu
    have hzl : z < s.heap.objs.size := Heap.lt_size hz
    have hd := I.ok.hd hc
    refine pyNext3_item (draws_src (A := X.A.in1) (x := x) (items := it1) hd ox.i1) (draws_src (A := X.A.in1) (x := y) (items := it2) hd oy.i2) (draws_src (A := X.A.in1) (x := u) (items := it3) hd ou.i3) (ap_of D ox oy ou) hz hTI hTO ⟨h1, p1⟩ ⟨h2, p2⟩ ⟨h3, p3⟩
      (List.getElem?_eq_some_iff.mp hv1).1 (List.getElem?_eq_some_iff.mp hv2).1 (List.getElem?_eq_some_iff.mp hv3).1 fun w1 w2 w3 h' tk e1 e2 e3 z' TO' s1 s2 s3 hT hsz hk => ?_
    have e1 := Option.some.inj (hv1.symm.trans e1)
    have e2 := Option.some.inj (hv2.symm.trans e2)
    have e3 := Option.some.inj (hv3.symm.trans e3)
    subst e1 e2 e3
    refine ⟨_, rfl, wpAny_letOwnedTupleGo_zip (s := { s with heap := h', toks := tk }) z' fun h'' z'' sb => ?_⟩
    have hT2 : h''.get? s.heap.objs.size = some { cls := .type "tuple", data := .seq #[v1, v2, v3] } := (sb.2 _ (Nat.ne_of_gt hzl)).trans hT
    have new : ObjOk X.prog X.w (upd H s.heap.objs.size (.tup [a, b, c])) h'' s.heap.objs.size (.tup [a, b, c]) :=
      ⟨by show 3 ≤ sizeLine; decide, [v1, v2, v3], .cons r1 (.cons r2 (.cons r3 .nil)), ⟨_, hT2, rfl, _, rfl⟩⟩
    have I1 : Inv X pins σ (upd H s.heap.objs.size (.tup [a, b, c])) { s with heap := h'', toks := tk } :=
      I.turnedNew (t' := tk) (ch := [z, TI, TO, i1, i2, i3]) (fun c o hb q => (sb.2 c (fun q' => hb (by simp [q']))).trans (hk c o (fun q' => hb (by simp [q'])) (fun q' => hb (by simp [q'])) (fun q' => hb (by simp [q'])) (fun q' => hb (by simp [q'])) (fun q' => hb (by simp [q'])) q)) hf (Nat.le_refl _) new
    refine ⟨.ref s.heap.objs.size, _, I1, rfl, ⟨_, a, b, c, rfl, I.hok.fresh (Nat.le_refl _), rfl, fun l hl => by rw [hl.inj I hqx]; exact hx, fun l hl => by rw [hl.inj I hqy]; exact hy, fun l hl => by rw [hl.inj I hqu]; exact hu⟩, ⟨z'', ?_, ⟨v1, v2, v3, ?_⟩, ?_, ?_, ?_⟩, fun c hcm => ?_⟩
    · exact (sb.2 _ D.a1.symm).trans (hk _ _ D.a1.symm D.b2 D.b3 D.b4 D.b5 hTI)
    · exact (sb.2 _ D.a2.symm).trans TO'
    · exact s1.1.at fun o q => (sb.2 _ D.a3.symm).trans q
    · exact s2.1.at fun o q => (sb.2 _ D.a4.symm).trans q
    · exact s3.1.at fun o q => (sb.2 _ D.a5.symm).trans q
    · have hlt : c < s.heap.objs.size := by
        have e' : c = z ∨ c = TI ∨ c = TO ∨ c = i1 ∨ c = i2 ∨ c = i3 := by simpa using hcm
        rcases e' with q | q | q | q | q | q
        · rw [q]; exact hzl
        · rw [q]; exact Heap.lt_size hTI
        · rw [q]; exact Heap.lt_size hTO
        · rw [q]; obtain ⟨_, e1, _⟩ := h1.obj; exact Heap.lt_size e1
        · rw [q]; obtain ⟨_, e2, _⟩ := h2.obj; exact Heap.lt_size e2
        · rw [q]; obtain ⟨_, e2, _⟩ := h3.obj; exact Heap.lt_size e2
      rw [upd_ne (Nat.ne_of_lt hlt)]
      exact (hf c hcm).1
  done := by
    intro X hP hw hK hc i pins s σ H E I hf st hg
    subst hP hw hK
    obtain ⟨hz, hTI, ⟨a0, b0, c0, hTO⟩, h1, h2, h3⟩ := st
    obtain ⟨xs, ys, us, hqx, hqy, hqu, l1, l2, l3, hend⟩ := hg
    obtain ⟨it1, rv1, p1⟩ := hqx.get I
    obtain ⟨it2, rv2, p2⟩ := hqy.get I
    obtain ⟨it3, rv3, p3⟩ := hqu.get I
    have g1 := rv1.length
    have g2 := rv2.length
    have g3 := rv3.length
    have hd := I.ok.hd hc
    exact pyNext3_end (draws_src (A := X.A.in1) (x := x) (items := it1) hd ox.i1) (draws_src (A := X.A.in1) (x := y) (items := it2) hd oy.i2) (draws_src (A := X.A.in1) (x := u) (items := it3) hd ou.i3) (ap_of D ox oy ou) hz hTI hTO ⟨h1, p1⟩ ⟨h2, p2⟩ ⟨h3, p3⟩
      (by omega) fun h' tk hk => ⟨rfl, I.turnedL (t' := tk) (ch := [z, TI, TO, i1, i2, i3]) (fun c o hb q =>
      hk c o (fun q' => hb (by simp [q'])) (fun q' => hb (by simp [q'])) (fun q' => hb (by simp [q'])) (fun q' => hb (by simp [q'])) (fun q' => hb (by simp [q'])) q) hf⟩
  self := fun A i s Q E st h => wpAny_pyIter_zip st.1 h
def iZ3 (K : PySem.W.Frag) (ta : TA) : TI := fun σ H R => ta σ H fun vs H1 => ∃ (x y u : Src) (xs ys us : List V), vs = [.ref x.a, .ref y.a, .ref u.a] ∧ SrcV K H1 x xs ∧ SrcV K H1 y ys ∧ SrcV K H1 u us ∧ R (ItZ3 K x y u) H1
theorem pi_z3 {X : Cx} {e e2 e3 : Expr} {ta : TA} {p pos tpos : Pos} {elts : List Expr} {kk : Nat} (hg : Gl X "zip") (hm : X.mg "zip" = none) (ha : PA X [e, e2, e3] ta)
    (hs : starEach [e, e2, e3] X.env = (false, eval e X.env) :: starEach [e2, e3] X.env := by rfl) (hpl : (backTo pos (starEach [e2, e3] X.env)).any (·.1) = false := by rfl) :
    PI X (.Tuple elts kk tpos) (.Call (.Name "zip" p) [e, e2, e3] [] pos) (iZ3 X.K ta) := by
  refine ⟨fun pins s σ H R I h => ?_⟩
  refine Call_ (ld_blt I hg hm PyProof.Rows.boot_zip (PyProof.Rows.callWith_type1 (thn (ha.run pos pins s σ H _ I h) fun us s1 ⟨vs, H1, I1, r1, q1⟩ => ?_) hs hpl))
  obtain ⟨x, y, u, xs, ys, ws, ex, hqx, hqy, hqu, q⟩ := q1
  subst ex
  cases r1 with
  | cons r rr =>
    cases rr with
    | cons r' rr =>
      cases rr with
      | cons r'' rr =>
        cases rr
        cases r
        cases r'
        cases r''
        obtain ⟨it1, rv1, p1⟩ := hqx.get I1
        obtain ⟨it2, rv2, p2⟩ := hqy.get I1
        obtain ⟨it3, rv3, p3⟩ := hqu.get I1
        have f6 : ∀ c, c ∈ [s1.heap.objs.size + 5, s1.heap.objs.size + 3, s1.heap.objs.size + 4, s1.heap.objs.size, s1.heap.objs.size + 1, s1.heap.objs.size + 2] → FpOk X pins H1 c := fun c hcm => by
          have e' : c = s1.heap.objs.size + 5 ∨ c = s1.heap.objs.size + 3 ∨ c = s1.heap.objs.size + 4 ∨ c = s1.heap.objs.size ∨ c = s1.heap.objs.size + 1 ∨ c = s1.heap.objs.size + 2 := by simpa using hcm
          have hle : s1.heap.objs.size ≤ c := by
            rcases e' with z | z | z | z | z | z
            · rw [z]; exact Nat.le_add_right _ _
            · rw [z]; exact Nat.le_add_right _ _
            · rw [z]; exact Nat.le_add_right _ _
            · rw [z]; exact Nat.le_refl _
            · rw [z]; exact Nat.le_add_right _ _
            · rw [z]; exact Nat.le_add_right _ _
          exact I1.fpOk hle (I1.hok.fresh hle)
        have off : ∀ {v : Src} {items : Array Value}, v.Is s1.heap items → Off v (s1.heap.objs.size + 5) (s1.heap.objs.size + 3) (s1.heap.objs.size + 4) s1.heap.objs.size (s1.heap.objs.size + 1) (s1.heap.objs.size + 2) := fun {v items} p => by
          have l : v.a < s1.heap.objs.size := p.lt
          exact ⟨Nat.ne_of_lt (Nat.lt_add_right _ l), Nat.ne_of_lt (Nat.lt_add_right _ l), Nat.ne_of_lt (Nat.lt_add_right _ l), Nat.ne_of_lt l, Nat.ne_of_lt (Nat.lt_add_right _ l), Nat.ne_of_lt (Nat.lt_add_right _ l)⟩
        have ap3 : ∀ n : Nat, Ap3 (n + 5) (n + 3) (n + 4) n (n + 1) (n + 2) := fun n => by constructor <;> (show (_ : Nat) ≠ (_ : Nat); omega)
        have ap : Ap3 (s1.heap.objs.size + 5) (s1.heap.objs.size + 3) (s1.heap.objs.size + 4) s1.heap.objs.size (s1.heap.objs.size + 1) (s1.heap.objs.size + 2) := ap3 _
        refine call_z3 p1 p2 p3 fun h' hz hTI hTO h1 h2 h3 hsz hk => wpAny_pyIter_zip hz ?_
        have I2 : Inv X pins σ H1 { s1 with heap := h' } := I1.kept (t' := s1.toks) hk
        exact ⟨s1.heap.objs.size + 5, [s1.heap.objs.size + 5, s1.heap.objs.size + 3, s1.heap.objs.size + 4, s1.heap.objs.size, s1.heap.objs.size + 1, s1.heap.objs.size + 2], _, _, H1, rfl, I2, turn_z3 ap (off p1) (off p2) (off p3), ⟨hz, hTI, ⟨_, _, _, hTO⟩, h1, h2, h3⟩, f6, q⟩
end Z
namespace Z
open PySem PySem.Spec PyProof.Rows L2 Z3
def zip3D : List D → List D → List D → List D
  | a :: as, b :: bs, c :: cs => .tup [a, b, c] :: zip3D as bs cs
  | _, _, _ => []
theorem zip3D_len : ∀ (l m n : List D), (zip3D l m n).length = min l.length (min m.length n.length)
  | [], m, n => by simp [zip3D]
  | a :: l, [], n => by simp [zip3D]
  | a :: l, b :: m, [] => by simp [zip3D]
  | a :: l, b :: m, c :: n => by
    show (zip3D l m n).length + 1 = _
    rw [zip3D_len l m n]
    simp only [List.length_cons]
    omega
theorem zip3D_at : ∀ {l m n : List D} {i : Nat} {a b c : D}, l[i]? = some a → m[i]? = some b → n[i]? = some c → (zip3D l m n)[i]? = some (.tup [a, b, c])
  | [], _, _, _, _, _, _, h, _, _ => by simp at h
  | _ :: _, [], _, _, _, _, _, _, h, _ => by simp at h
  | _ :: _, _ :: _, [], _, _, _, _, _, _, h => by simp at h
  | x :: l, y :: m, z :: n, 0, a, b, c, h1, h2, h3 => by
    cases h1
    cases h2
    cases h3
    rfl
  | x :: l, y :: m, z :: n, i + 1, a, b, c, h1, h2, h3 => zip3D_at (l := l) (m := m) (n := n) (i := i) h1 h2 h3
/-- the items of a tuple or a list -/
def srcD (x : DV) (C : Cs) : Option (List D) := match rdT x with
  | some l => some l
  | none => rdL x C
section
variable {K : PySem.W.Frag} [Gd K] {X : Cx} {t : TA} {dt : DTA} {pos : Pos}
theorem srcD_ok {W : Wd} {C : Cs} {v : V} {x : DV} {l : List D} (m : Mem K W C) (r : RepV K W v x) (h : srcD x C = some l) :
    ∃ y : Src, v = .ref y.a ∧ ∀ W2 C2, Ext W W2 → Mem K W2 C2 → srcD x C2 = some l → ∃ us, SrcV K W2.H y us ∧ Reps K W2 us l := by
  unfold srcD at h
  split at h
  · rename_i l' hl
    cases h
    obtain ⟨p, us, rfl, h1, h2⟩ := rdT_ok r hl
    refine ⟨.t p, rfl, fun W2 C2 e m2 _ => ?_⟩
    obtain ⟨p', us', e', h3, h4⟩ := rdT_ok (r.mono m e) hl
    cases e'
    exact ⟨us', h3, h4⟩
  · rename_i hn
    obtain ⟨p, us, rfl, h1, h2⟩ := rdL_ok m r h
    refine ⟨.l p, rfl, fun W2 C2 e m2 q => ?_⟩
    unfold srcD at q
    rw [hn] at q
    obtain ⟨p', us', e', h3, h4⟩ := rdL_ok m2 (r.mono m e) q
    cases e'
    exact ⟨us', SqL.of h3, h4⟩
theorem repVs3 {W : Wd} {vs : List V} {x y z : DV} (r : RepVs K W vs [x, y, z]) : ∃ a b c, vs = [a, b, c] ∧ RepV K W a x ∧ RepV K W b y ∧ RepV K W c z := by
  cases r with
  | cons a _ _ _ ha t =>
    cases t with
    | cons b _ _ _ hb t =>
      cases t with
      | cons c _ _ _ hc t =>
        cases t
        exact ⟨a, b, c, rfl, ha, hb, hc⟩
def iqZ3 (d : DTA) : DTI := fun S C Q => d S C fun xs C1 => match xs with
  | [x, y, z] => (match srcD x C1, srcD y C1, srcD z C1 with | some l, some m, some n => Q (zip3D l m n) (fun C => srcD x C = some l ∧ srcD y C = some m ∧ srcD z C = some n) C1 | _, _, _ => False)
  | _ => False
theorem qi_zip3 {e1 e2 e3 : Expr} {elts : List Expr} {kk : Nat} {tpos p : Pos} (hK : X.K = K) (hg : Gl X "zip") (hm : X.mg "zip" = none) (ha : QA K X [e1, e2, e3] 3 t dt)
    (hs : starEach [e1, e2, e3] X.env = (false, eval e1 X.env) :: starEach [e2, e3] X.env := by rfl) (hpl : (backTo pos (starEach [e2, e3] X.env)).any (·.1) = false := by rfl) :
    QI K X (.Tuple elts kk tpos) (.Call (.Name "zip" p) [e1, e2, e3] [] pos) (iZ3 K t) (iqZ3 dt) := ⟨by subst hK; exact pi_z3 hg hm ha.p hs hpl, fun W S C σ st QD R q k => ha.r W S C σ st _ _ q fun vs xs W1 C1 hln e1 s1 r1 q1 => by
  split at q1
  · rename_i x y z
    split at q1
    · rename_i l m n hl hm' hn
      obtain ⟨v1, v2, v3, rfl, r1, r2, r3⟩ := repVs3 r1
      obtain ⟨y1, rfl, k1⟩ := srcD_ok s1.m r1 hl
      obtain ⟨y2, rfl, k2⟩ := srcD_ok s1.m r2 hm'
      obtain ⟨y3, rfl, k3⟩ := srcD_ok s1.m r3 hn
      obtain ⟨us1, g1, _⟩ := k1 W1 C1 .refl s1.m hl
      obtain ⟨us2, g2, _⟩ := k2 W1 C1 .refl s1.m hm'
      obtain ⟨us3, g3, _⟩ := k3 W1 C1 .refl s1.m hn
      refine ⟨y1, y2, y3, us1, us2, us3, rfl, g1, g2, g3, k _ W1 C1 _ _ e1 s1 (fun W2 C2 e2 m2 hok => ?_) q1⟩
      obtain ⟨o1, o2, o3⟩ := hok
      obtain ⟨w1, a1, b1⟩ := k1 W2 C2 e2 m2 o1
      obtain ⟨w2, a2, b2⟩ := k2 W2 C2 e2 m2 o2
      obtain ⟨w3, a3, b3⟩ := k3 W2 C2 e2 m2 o3
      rw [zip3D_len]
      refine ⟨fun i hi => ?_, w1, w2, w3, a1, a2, a3, by rw [b1.len]; omega, by rw [b2.len]; omega, by rw [b3.len]; omega, by rw [b1.len, b2.len, b3.len]; omega⟩
      have i1 : i < w1.length := by rw [b1.len]; omega
      have i2 : i < w2.length := by rw [b2.len]; omega
      have i3 : i < w3.length := by rw [b3.len]; omega
      refine ⟨⟨w1, w2, w3, w1[i], w2[i], w3[i], a1, a2, a3, List.getElem?_eq_getElem _, List.getElem?_eq_getElem _, List.getElem?_eq_getElem _⟩, fun x H' hy => ?_⟩
      obtain ⟨T, u1, u2, u3, rfl, hT, rfl, h1, h2, h3⟩ := hy
      obtain ⟨d1, e1, f1⟩ := b1.at' (h1 w1 a1)
      obtain ⟨d2, e2, f2⟩ := b2.at' (h2 w2 a2)
      obtain ⟨d3, e3, f3⟩ := b3.at' (h3 w3 a3)
      have pe := (Ext.new (W := W2) (o := .tup [u1, u2, u3]) hT).pers m2.wrws
      exact ⟨W2.new T _, Ext.new hT, rfl, m2.new hT, .tup [d1, d2, d3], zip3D_at e1 e2 e3, .tup _ _ _ upd_same (m2.fresh hT).1 (.cons _ _ _ _ (Rep.mono pe f1) (.cons _ _ _ _ (Rep.mono pe f2) (.one (Rep.mono pe f3))))⟩
    · exact q1.elim
  · exact q1.elim⟩
end
end Z

set_option Elab.async false
set_option linter.all false
set_option maxRecDepth 100000
set_option maxHeartbeats 4000000
/-! ### == of a plain thing with an instance: the instance's own == is asked -/
namespace GR
open PySem PySem.SeqAt PyProof.Rows
open AutoSeq1 (wpAny_loadPart')
open MeetsSeq MeetsSeq2 MeetsSeq3 SeqRoads2
section
variable {prog : Program} {w : World} {A : Around} {E : Value → Shared → Prop} {s : Shared} {K : PySem.W.Frag} {p C f : Addr} {ob : Obj} {od : Option Obj}
/-- a plain value that is no instance's -/
inductive Plain (s : Shared) : Value → String → Prop
  | non : Plain s .none "NoneType"
  | bl (b : Bool) : Plain s (.bool b) "bool"
  | int (i : Int) (t : Tok) : Plain s (.int i t) "int"
  | str (x : Str) (t : Tok) : Plain s (.str x t) "str"
  | tup (l : Addr) (its : Array Value) (h : s.heap.IsTuple l its) : Plain s (.ref l) "tuple"
theorem Plain.is {u : Value} {T : String} (h : Plain s u T) : s.TypeIs u T := by
  cases h with
  | non => rfl
  | bl => rfl
  | int i t => exact typeIs_int s i t
  | str x t => exact typeIs_str s x t
  | tup l its h => exact h.typeIs
/-- what the plain thing's type has for it declines -/
theorem Plain.off {u : Value} {T : String} (h : Plain s u T) {dx : Option Addr} {sl : Array (Option Value)} (ho : s.heap.get? p = some { cls := .ref C, dict := dx, data := .plain, slots := sl }) (hs : PySem.W.Looks (model prog w) s.heap (isSubtype (.ref C) (.type T)) false) (neg : Bool) {Q : Option Value → Shared → Prop} (hq : Q none s) :
    wpAny (model prog w) A (tryCompare u (cond neg "__ne__" "__eq__") (.ref p)) Q E s := by
  obtain ⟨hp, g, d, tk, os⟩ := s
  cases h with
  | non => cases neg with
    | false => exact wpAny_tryCompare_declines rfl F.slot_NoneType_eq (wpAny_call_entry F.slot_NoneType_eq rfl F.entry_NoneType_eq (by wp_walk; exact ⟨_, rfl, rfl, hq⟩) (F.args_NoneType_eq_2 _ _))
    | true => exact wpAny_tryCompare_declines rfl F.slot_NoneType_ne (wpAny_call_entry F.slot_NoneType_ne rfl F.entry_NoneType_ne (by wp_walk; exact ⟨_, rfl, rfl, hq⟩) (F.args_NoneType_ne_2 _ _))
  | bl b => cases neg with
    | false => exact wpAny_tryCompare_declines rfl F.slot_bool_eq (wpAny_call_entry F.slot_bool_eq rfl F.entry_int_eq (by wp_walk using wpAny_loadPart' ho, wpAny_load ho; exact ⟨_, rfl, rfl, hq⟩) (F.args_int_eq_2 _ _))
    | true => exact wpAny_tryCompare_declines rfl F.slot_bool_ne (wpAny_call_entry F.slot_bool_ne rfl F.entry_int_ne (by wp_walk using wpAny_loadPart' ho, wpAny_load ho; exact ⟨_, rfl, rfl, hq⟩) (F.args_int_ne_2 _ _))
  | int i t => cases neg with
    | false => exact wpAny_tryCompare_declines (typeIs_int _ i t) F.slot_int_eq (wpAny_call_entry F.slot_int_eq (typeIs_int _ i t) F.entry_int_eq (by wp_walk using wpAny_loadPart' ho, wpAny_load ho; exact ⟨_, rfl, rfl, hq⟩) (F.args_int_eq_2 _ _))
    | true => exact wpAny_tryCompare_declines (typeIs_int _ i t) F.slot_int_ne (wpAny_call_entry F.slot_int_ne (typeIs_int _ i t) F.entry_int_ne (by wp_walk using wpAny_loadPart' ho, wpAny_load ho; exact ⟨_, rfl, rfl, hq⟩) (F.args_int_ne_2 _ _))
  | str x t => cases neg with
    | false => exact wpAny_tryCompare_declines (typeIs_str _ x t) F.slot_str_eq (wpAny_call_entry F.slot_str_eq (typeIs_str _ x t) F.entry_str_eq (by wp_walk using wpAny_loadPart' ho, wpAny_load ho; exact ⟨_, rfl, rfl, hq⟩) (F.args_str_eq_2 _ _))
    | true => exact wpAny_tryCompare_declines (typeIs_str _ x t) F.slot_str_ne (wpAny_call_entry F.slot_str_ne (typeIs_str _ x t) F.entry_str_ne (by wp_walk using wpAny_loadPart' ho, wpAny_load ho; exact ⟨_, rfl, rfl, hq⟩) (F.args_str_ne_2 _ _))
  | tup l its h =>
    have ht := h.typeIs
    cases neg with
    | false =>
      refine wpAny_tryCompare_declines ht F.slot_tuple_eq (wpAny_call_entry F.slot_tuple_eq ht F.entry_tuple_eq ?_ (F.args_tuple_eq_2 _ _))
      wp_walk using wpAny_loadPart' ho, wpAny_load ho
      refine hs.here ?_
      wp_walk
      exact ⟨_, rfl, rfl, hq⟩
    | true =>
      refine wpAny_tryCompare_declines ht F.slot_tuple_ne (wpAny_call_entry F.slot_tuple_ne ht F.entry_tuple_ne ?_ (F.args_tuple_ne_2 _ _))
      wp_walk using wpAny_loadPart' ho, wpAny_load ho
      refine hs.here ?_
      wp_walk
      exact ⟨_, rfl, rfl, hq⟩
theorem right_go {u : Value} {T : String} {op : CmpOp} {Q : Value → Shared → Prop} (hu : A.units < cLine) (h : Plain s u T) (J : PySem.W.InstAt s.heap p ob C od) (hs : PySem.W.Looks (model prog w) s.heap (isSubtype (.ref C) (.type T)) false)
    (hoff : ∀ Q' : Option Value → Shared → Prop, Q' none s → wpAny (model prog w) A (tryCompare u (cmpInfo op).2.1 (.ref p)) Q' E s)
    (one : wpAny (model prog w) A (tryCompare (.ref p) (cmpInfo op).2.2 u) (fun r s' => ∃ v, r = some v ∧ Q v s') E s) : wpAny (model prog w) A (richCompare op u (.ref p)) Q E s := by
  rcases hi : cmpInfo op with ⟨sym, f, r⟩
  rw [hi] at hoff one
  simp only [richCompare, hi, h.is.oneThing_none]
  try with_reducible refine wpAny_holding ?_
  refine wpAny_bind (wpAny_cRoomFor hu ?_)
  refine wpAny_bind (wpAny_typeOf h.is (wpAny_bind (J.type.here ?_)))
  split
  · refine wpAny_bind (hs.here ?_)
    simp only [Bool.false_eq_true, if_false, Bool.not_false, if_true]
    refine wpAny_bind (m := tryCompare u _ _) (hoff _ ?_)
    refine wpAny_bind (m := tryCompare (.ref p) _ _) (wpAny_mono one (fun r s' z => ?_) fun _ _ e => e)
    obtain ⟨v, rfl, q⟩ := z
    exact wpAny_pure q
  · refine wpAny_bind (wpAny_pure ?_)
    simp only [Bool.false_eq_true, if_false, Bool.not_false, if_true]
    refine wpAny_bind (m := tryCompare u _ _) (hoff _ ?_)
    refine wpAny_bind (m := tryCompare (.ref p) _ _) (wpAny_mono one (fun r s' z => ?_) fun _ _ e => e)
    obtain ⟨v, rfl, q⟩ := z
    exact wpAny_pure q
theorem right_eq {u : Value} {T : String} {Q : Value → Shared → Prop} (hu : A.units < cLine) (kin : K.In s.heap) (h : Plain s u T) {dx : Addr} (J : PySem.W.InstAt s.heap p (PySem.W.instObj C dx) C od) (hs : PySem.W.Looks (model prog w) s.heap (isSubtype (.ref C) (.type T)) false)
    (hSp : PySem.W.findIn K (.ref C) "__eq__" = some (some (.ref f))) (hf : PySem.W.isFn K (.ref f) = true) (hc : wpAny (model prog w) A (call (.ref f) [.ref p, u]) (PySem.W.CmpBack Q) E s) : wpAny (model prog w) A (richCompare .Eq u (.ref p)) Q E s := by
  refine right_go hu h J hs (fun Q' q => h.off J.at_ hs false q) ?_
  unfold tryCompare
  refine wpAny_bind (PySem.W.ifBound_K kin J hSp hf (wpAny_mono hc (fun v s' hv => ?_) fun _ _ e => e))
  cases v <;> first | exact hv.elim | exact wpAny_pure ⟨_, rfl, hv⟩
theorem right_ne {u : Value} {T : String} {Q : Value → Shared → Prop} (hu : A.units + 1 < cLine) (kin : K.In s.heap) (h : Plain s u T) {dx : Addr} (J : PySem.W.InstAt s.heap p (PySem.W.instObj C dx) C od) (hs : PySem.W.Looks (model prog w) s.heap (isSubtype (.ref C) (.type T)) false) (hMro : PySem.W.mroIn K C (.type "object") = some true)
    (hSp : PySem.W.findIn K (.ref C) "__eq__" = some (some (.ref f))) (hNe : PySem.W.findIn K (.ref C) "__ne__" = some (some (.builtin "object.__ne__"))) (hFn : PySem.W.isFn K (.ref f) = true)
    (hc : wpAny (model prog w) A.in1 (call (.ref f) [.ref p, u]) (fun v s' => ∃ r, v = .bool r ∧ Q (.bool (!r)) s') E s) : wpAny (model prog w) A (richCompare .NotEq u (.ref p)) Q E s := by
  refine right_go (Nat.lt_of_succ_lt hu) h J hs (fun Q' q => h.off J.at_ hs true q) ?_
  unfold tryCompare
  refine wpAny_bind (ZO.ifBound_objNe kin J hNe (ZO.call_objNe kin J hu hMro hSp hFn (wpAny_mono hc (fun v s' hv => ?_) fun _ _ ee => ee)))
  obtain ⟨r, rfl, hQ⟩ := hv
  exact ⟨r, rfl, wpAny_pure ⟨_, rfl, hQ⟩⟩
theorem kit_one {M : Model} {h : Heap} {t c : Value} {v : Bool} (X : K.In h) (e : PySem.W.kitOne K t c = some v) (hv : v = false) : PySem.W.Looks M h (isSubtype t c) v := by
  unfold PySem.W.kitOne at e
  split at e
  · cases e; cases hv
  · exact (PySem.W.kit_cls X e).2.2
/-- == inside a builtin, of a plain value and a thing -/
theorem eqBool_plain {u : Value} {T : String} {Q : Bool → Shared → Prop} (hp : Plain s u T) (hne : u ≠ .ref p) (h : wpAny (model prog w) A (richCompare .Eq u (.ref p)) (fun v s' => ∃ r, v = .bool r ∧ Q r s') E s) : wpAny (model prog w) A (eqBool u (.ref p)) Q E s := by
  unfold eqBool
  refine wpAny_holding ?_
  refine wpAny_ite_split (fun hab => absurd (eq_of_beq hab) hne) (fun _ => ?_)
  have fin : wpAny (model prog w) A (truthOfDropped =<< richCompare .Eq u (.ref p)) Q E s := by
    refine wpAny_bind (wpAny_mono h (fun v s' hv => ?_) fun _ _ x => x)
    obtain ⟨r, rfl, q⟩ := hv
    exact wpAny_truthy_bool q
  cases hp <;> exact fin
end
end GR

set_option Elab.async false
set_option linter.all false
set_option maxRecDepth 100000
set_option maxHeartbeats 4000000
/-! ### == of data with own instances within, any answer -/
namespace GA
open PySem PySem.SeqAt
open AutoSeq1 (wpAny_loadPart')
open MeetsSeq MeetsSeq2 MeetsSeq3 SeqRoads2
section
variable {prog : Program} {w : World} {A : Around} {R : Result → Shared → Prop}
/-- at each turn the two lists are read anew; F: behind an unequal pair -/
def ListA (prog : Program) (w : World) (A : Around) (E : Value → Shared → Prop) (l b : Addr) (N : Nat) (I : Nat → Shared → Prop) (Fn : Shared → Prop) : Prop :=
  (∀ i s, I i s → ∃ (items items2 : Array Value) (n n2 : Nat), s.heap.get? l = some { cls := .type "list", data := .seq items n } ∧ s.heap.get? b = some { cls := .type "list", data := .seq items2 n2 } ∧ items.size = N ∧ items2.size = N ∧
    ∀ (h1 : i < items.size) (h2 : i < items2.size), wpAny (model prog w) A.in1 (eqBool items[i] items2[i]) (fun r s' => (r = true ∧ I (i + 1) s') ∨ (r = false ∧ Fn s')) E s) ∧
  ∀ s, Fn s → ∃ (items items2 : Array Value) (n n2 : Nat), s.heap.get? l = some { cls := .type "list", data := .seq items n } ∧ s.heap.get? b = some { cls := .type "list", data := .seq items2 n2 } ∧ items.size = N ∧ items2.size = N
theorem loopA (neg : Bool) (l b : Addr) (N : Nat) (I : Nat → Shared → Prop) (Fn : Shared → Prop) (hl : ListA prog w A (fun e s' => R (.error e) s') l b N I Fn)
    (fin : ∀ s, I N s → R (.ok (.ret (.bool (!neg)))) s) (fn : ∀ s, Fn s → R (.ok (.ret (.bool neg))) s) (k : Nat) :
    ∀ i : Nat, N - i = k → i ≤ N → ∀ s, I i s →
      wpAny (model prog w) A.in1 (Builtin.«list.__eq__.loop» ⟨[.ref l, .ref b, rawInt i, rawInt (cond neg 3 2)], []⟩) (GQ.FinOf prog w A R) (fun e s' => R (.error e) s') s := by
  induction k with
  | zero =>
    intro i hk hi s h
    obtain ⟨items, items2, n, n2, hl1, hb1, hs1, hs2, _⟩ := hl.1 _ _ h
    have hi' : i = N := by omega
    have hR : R (.ok (.ret (.bool (!neg)))) s := fin s (hi' ▸ h)
    obtain ⟨hp, g, d, tk, os⟩ := s
    have hi1 : items[((i : Nat) : Int).toNat]? = none := by simp; omega
    have hi2 : items2[((i : Nat) : Int).toNat]? = none := by simp; omega
    cases neg with
    | false =>
      wp_walk using wpAny_loadPart' hl1, wpAny_loadPart' hb1
      rw [hi1, hi2]
      wp_walk using wpAny_loadPart' hl1, wpAny_loadPart' hb1
      show R (.ok (.ret (.bool (items.size == items2.size)))) _
      rw [hs1, hs2]
      simpa using hR
    | true =>
      wp_walk using wpAny_loadPart' hl1, wpAny_loadPart' hb1
      rw [hi1, hi2]
      wp_walk using wpAny_loadPart' hl1, wpAny_loadPart' hb1
      show R (.ok (.ret (.bool (items.size != items2.size)))) _
      rw [hs1, hs2]
      simpa using hR
  | succ k ih =>
    intro i hk hi s h
    obtain ⟨items, items2, n, n2, hl1, hb1, hs1, hs2, turn⟩ := hl.1 _ _ h
    have hlt : i < items.size := by omega
    have hlt2 : i < items2.size := by omega
    have ht := turn hlt hlt2
    have hi1 : items[((i : Nat) : Int).toNat]? = some items[i] := by simp [hlt]
    have hi2 : items2[((i : Nat) : Int).toNat]? = some items2[i] := by simp [hlt2]
    have hc : ((i : Int) + 1) = ((i + 1 : Nat) : Int) := by omega
    obtain ⟨hp, g, d, tk, os⟩ := s
    cases neg with
    | false =>
      wp_walk using wpAny_loadPart' hl1, wpAny_loadPart' hb1
      rw [hi1, hi2]
      refine wpAny_bind (wpAny_mono ht (fun r s2 h2 => ?_) fun _ _ x => x)
      rcases h2 with ⟨rfl, h2⟩ | ⟨rfl, h2⟩
      · have hrec := ih (i + 1) (by omega) (by omega) s2 h2
        obtain ⟨hp2, g2, d2, tk2, os2⟩ := s2
        wp_walk
        rw [hc]
        exact ⟨plainId_quiet plain_eq_loop _, codeAny_builtin entry_eq_loop (by
          rw [Around.under_plainId plain_eq_loop _]
          exact hrec)⟩
      · obtain ⟨it1, it2, m1, m2, q1, q2, z1, z2⟩ := hl.2 _ h2
        have hR := fn s2 h2
        obtain ⟨hp2, g2, d2, tk2, os2⟩ := s2
        have j1 : it1[((i : Nat) : Int).toNat]? = some (it1[i]'(by omega)) := by simp [show i < it1.size by omega]
        have j2 : it2[((i : Nat) : Int).toNat]? = some (it2[i]'(by omega)) := by simp [show i < it2.size by omega]
        wp_walk using wpAny_loadPart' q1, wpAny_loadPart' q2
        rw [j1, j2]
        wp_walk
        exact hR
    | true =>
      wp_walk using wpAny_loadPart' hl1, wpAny_loadPart' hb1
      rw [hi1, hi2]
      refine wpAny_bind (wpAny_mono ht (fun r s2 h2 => ?_) fun _ _ x => x)
      rcases h2 with ⟨rfl, h2⟩ | ⟨rfl, h2⟩
      · have hrec := ih (i + 1) (by omega) (by omega) s2 h2
        obtain ⟨hp2, g2, d2, tk2, os2⟩ := s2
        wp_walk
        rw [hc]
        exact ⟨plainId_quiet plain_eq_loop _, codeAny_builtin entry_eq_loop (by
          rw [Around.under_plainId plain_eq_loop _]
          exact hrec)⟩
      · obtain ⟨it1, it2, m1, m2, q1, q2, z1, z2⟩ := hl.2 _ h2
        have hR := fn s2 h2
        obtain ⟨hp2, g2, d2, tk2, os2⟩ := s2
        have j1 : it1[((i : Nat) : Int).toNat]? = some (it1[i]'(by omega)) := by simp [show i < it1.size by omega]
        have j2 : it2[((i : Nat) : Int).toNat]? = some (it2[i]'(by omega)) := by simp [show i < it2.size by omega]
        wp_walk using wpAny_loadPart' q1, wpAny_loadPart' q2
        rw [j1, j2]
        wp_walk
        exact hR
theorem list_eqA (l b : Addr) (N : Nat) (I : Nat → Shared → Prop) (Fn : Shared → Prop) (hl : ListA prog w A (fun e s' => R (.error e) s') l b N I Fn)
    (fin : ∀ s, I N s → R (.ok (.ret (.bool true))) s) (fn : ∀ s, Fn s → R (.ok (.ret (.bool false))) s) {s : Shared} (h : I 0 s) :
    wpAny (model prog w) A.in1 (Builtin.«list.__eq__» ⟨[.ref l, .ref b], []⟩) (GQ.FinOf prog w A R) (fun e s' => R (.error e) s') s := by
  obtain ⟨items, items2, n, n2, hl1, hb1, hs1, hs2, _⟩ := hl.1 _ _ h
  have hrec := loopA (A := A) (R := R) false l b N I Fn hl fin fn _ 0 rfl (Nat.zero_le _) s h
  obtain ⟨hp, g, d, tk, os⟩ := s
  have f3 := AutoSeq1.sub_list_list
  have hne : ¬ (items.size != items2.size) = true := by simp [hs1, hs2]
  wp_walk using wpAny_loadPart' hl1, wpAny_loadPart' hb1
  exact ⟨plainId_quiet plain_eq_loop _, codeAny_builtin entry_eq_loop (by
    rw [Around.under_plainId plain_eq_loop _]
    exact hrec)⟩
theorem list_neA (l b : Addr) (N : Nat) (I : Nat → Shared → Prop) (Fn : Shared → Prop) (hl : ListA prog w A (fun e s' => R (.error e) s') l b N I Fn)
    (fin : ∀ s, I N s → R (.ok (.ret (.bool false))) s) (fn : ∀ s, Fn s → R (.ok (.ret (.bool true))) s) {s : Shared} (h : I 0 s) :
    wpAny (model prog w) A.in1 (Builtin.«list.__ne__» ⟨[.ref l, .ref b], []⟩) (GQ.FinOf prog w A R) (fun e s' => R (.error e) s') s := by
  obtain ⟨items, items2, n, n2, hl1, hb1, hs1, hs2, _⟩ := hl.1 _ _ h
  have hrec := loopA (A := A) (R := R) true l b N I Fn hl fin fn _ 0 rfl (Nat.zero_le _) s h
  obtain ⟨hp, g, d, tk, os⟩ := s
  have f3 := AutoSeq1.sub_list_list
  have hne : ¬ (items.size != items2.size) = true := by simp [hs1, hs2]
  wp_walk using wpAny_loadPart' hl1, wpAny_loadPart' hb1
  exact ⟨plainId_quiet plain_eq_loop _, codeAny_builtin entry_eq_loop (by
    rw [Around.under_plainId plain_eq_loop _]
    exact hrec)⟩
/-- two tuples, any lengths -/
theorem tup_eqA (l b : Addr) (items items2 : Array Value) (n n2 : Nat) (dd dd2 : Option Addr) (sl sl2 : Array (Option Value)) (I : Nat → Shared → Prop) (Fn : Shared → Prop)
    (turn : ∀ i (h1 : i < items.size) (h2 : i < items2.size) s, I i s → wpAny (model prog w) A.in1 (eqBool items[i] items2[i]) (fun r s' => (r = true ∧ I (i + 1) s') ∨ (r = false ∧ Fn s')) (fun e s' => R (.error e) s') s)
    (fin : ∀ s, I (min items.size items2.size) s → R (.ok (.ret (.bool (items.size == items2.size)))) s) (fn : ∀ s, Fn s → R (.ok (.ret (.bool false))) s) {s : Shared} (hl1 : s.heap.get? l = some { cls := .type "tuple", dict := dd, data := .seq items n, slots := sl }) (hb1 : s.heap.get? b = some { cls := .type "tuple", dict := dd2, data := .seq items2 n2, slots := sl2 }) (h : I 0 s) :
    wpAny (model prog w) A.in1 (Builtin.«tuple.__eq__» ⟨[.ref l, .ref b], []⟩) (GQ.FinOf prog w A R) (fun e s' => R (.error e) s') s := by
  have f2 := AutoSeq1.sub_tuple_tuple
  have hZ : (items.toList.zip items2.toList).length = min items.size items2.size := by simp
  have h0 := h
  obtain ⟨hp, g, d, tk, os⟩ := s
  wp_walk using wpAny_loadPart' hl1, wpAny_loadPart' hb1, wpAny_forIn_list _ (fun rest b s' => b.1 = none ∧ ∃ i, rest = (items.toList.zip items2.toList).drop i ∧ i ≤ min items.size items2.size ∧ I i s') _
  case turn =>
    rintro ⟨y, x⟩ rest b s' ⟨hb', i, hz, hi, hI⟩
    have hlt : i < (items.toList.zip items2.toList).length := by
      rcases Nat.lt_or_ge i (items.toList.zip items2.toList).length with h' | h'
      · exact h'
      · rw [List.drop_of_length_le h'] at hz; cases hz
    have hm : i < min items.size items2.size := hZ ▸ hlt
    have h1 : i < items.size := Nat.lt_of_lt_of_le hm (Nat.min_le_left _ _)
    have h2 : i < items2.size := Nat.lt_of_lt_of_le hm (Nat.min_le_right _ _)
    rw [List.drop_eq_getElem_cons hlt] at hz
    injection hz with hyx hrest
    have hy : y = items[i] := by have := congrArg Prod.fst hyx; simpa using this
    have hx : x = items2[i] := by have := congrArg Prod.snd hyx; simpa using this
    subst hy hx
    refine wpAny_bind (wpAny_mono (turn i h1 h2 s' hI) (fun r s2 q2 => ?_) fun _ _ x => x)
    rcases q2 with ⟨rfl, q2⟩ | ⟨rfl, q2⟩
    · wp_walk
      exact ⟨rfl, i + 1, hrest, hm, q2⟩
    · have hR := fn _ q2
      wp_walk
      exact hR
  case fin =>
    rintro ⟨b1, b2⟩ s' ⟨hb', i, hz, hi, hI⟩
    simp only at hb'
    subst hb'
    have hge : min items.size items2.size ≤ i := by
      rcases Nat.lt_or_ge i (items.toList.zip items2.toList).length with h' | h'
      · rw [List.drop_eq_getElem_cons h'] at hz; cases hz
      · exact hZ ▸ h'
    have hi' : i = min items.size items2.size := by omega
    have hR := fin s' (hi' ▸ hI)
    wp_walk
    simpa [Builtin.Tuple.tupleCompareSizes] using hR
  case h =>
    exact ⟨rfl, 0, rfl, Nat.zero_le _, h0⟩
theorem tup_neA (l b : Addr) (items items2 : Array Value) (n n2 : Nat) (dd dd2 : Option Addr) (sl sl2 : Array (Option Value)) (I : Nat → Shared → Prop) (Fn : Shared → Prop)
    (turn : ∀ i (h1 : i < items.size) (h2 : i < items2.size) s, I i s → wpAny (model prog w) A.in1 (eqBool items[i] items2[i]) (fun r s' => (r = true ∧ I (i + 1) s') ∨ (r = false ∧ Fn s')) (fun e s' => R (.error e) s') s)
    (fin : ∀ s, I (min items.size items2.size) s → R (.ok (.ret (.bool (!(items.size == items2.size))))) s) (fn : ∀ s, Fn s → R (.ok (.ret (.bool true))) s) {s : Shared} (hl1 : s.heap.get? l = some { cls := .type "tuple", dict := dd, data := .seq items n, slots := sl }) (hb1 : s.heap.get? b = some { cls := .type "tuple", dict := dd2, data := .seq items2 n2, slots := sl2 }) (h : I 0 s) :
    wpAny (model prog w) A.in1 (Builtin.«tuple.__ne__» ⟨[.ref l, .ref b], []⟩) (GQ.FinOf prog w A R) (fun e s' => R (.error e) s') s := by
  have f2 := AutoSeq1.sub_tuple_tuple
  have hZ : (items.toList.zip items2.toList).length = min items.size items2.size := by simp
  have h0 := h
  obtain ⟨hp, g, d, tk, os⟩ := s
  wp_walk using wpAny_loadPart' hl1, wpAny_loadPart' hb1, wpAny_forIn_list _ (fun rest b s' => b.1 = none ∧ ∃ i, rest = (items.toList.zip items2.toList).drop i ∧ i ≤ min items.size items2.size ∧ I i s') _
  case turn =>
    rintro ⟨y, x⟩ rest b s' ⟨hb', i, hz, hi, hI⟩
    have hlt : i < (items.toList.zip items2.toList).length := by
      rcases Nat.lt_or_ge i (items.toList.zip items2.toList).length with h' | h'
      · exact h'
      · rw [List.drop_of_length_le h'] at hz; cases hz
    have hm : i < min items.size items2.size := hZ ▸ hlt
    have h1 : i < items.size := Nat.lt_of_lt_of_le hm (Nat.min_le_left _ _)
    have h2 : i < items2.size := Nat.lt_of_lt_of_le hm (Nat.min_le_right _ _)
    rw [List.drop_eq_getElem_cons hlt] at hz
    injection hz with hyx hrest
    have hy : y = items[i] := by have := congrArg Prod.fst hyx; simpa using this
    have hx : x = items2[i] := by have := congrArg Prod.snd hyx; simpa using this
    subst hy hx
    refine wpAny_bind (wpAny_mono (turn i h1 h2 s' hI) (fun r s2 q2 => ?_) fun _ _ x => x)
    rcases q2 with ⟨rfl, q2⟩ | ⟨rfl, q2⟩
    · wp_walk
      exact ⟨rfl, i + 1, hrest, hm, q2⟩
    · have hR := fn _ q2
      wp_walk
      exact hR
  case fin =>
    rintro ⟨b1, b2⟩ s' ⟨hb', i, hz, hi, hI⟩
    simp only at hb'
    subst hb'
    have hge : min items.size items2.size ≤ i := by
      rcases Nat.lt_or_ge i (items.toList.zip items2.toList).length with h' | h'
      · rw [List.drop_eq_getElem_cons h'] at hz; cases hz
      · exact hZ ▸ h'
    have hi' : i = min items.size items2.size := by omega
    have hR := fin s' (hi' ▸ hI)
    wp_walk
    simpa [Builtin.Tuple.tupleCompareSizes, bne] using hR
  case h =>
    exact ⟨rfl, 0, rfl, Nat.zero_le _, h0⟩
end
section
variable {prog : Program} {w : World} {A : Around} {E : Value → Shared → Prop} {s : Shared}
theorem rc_listA {l b : Addr} {N : Nat} {Q : Value → Shared → Prop} (neg : Bool) (hu : A.units < cLine) (I : Nat → Shared → Prop) (Fn : Shared → Prop) (hl : ListA prog w A E l b N I Fn)
    (fin : ∀ s, I N s → Q (.bool (!neg)) s) (fn : ∀ s, Fn s → Q (.bool neg) s) (h : I 0 s) : wpAny (model prog w) A (richCompare (cond neg .NotEq .Eq) (.ref l) (.ref b)) Q E s := by
  obtain ⟨items, items2, n, n2, hl1, hb1, _, _, _⟩ := hl.1 _ _ h
  cases neg with
  | false =>
    refine wpAny_richCompare_same_room (op := .Eq) ⟨_, hl1, rfl⟩ ⟨_, hb1, rfl⟩ F.slot_list_eq (GQ.call_here F.slot_list_eq ⟨_, hl1, rfl⟩ F.entry_list_eq (F.args_list_eq_2 _ _) ?_) hu
    exact list_eqA (R := wants (fun v s' => v ≠ .notImplemented ∧ Q v s') E) l b N I Fn hl (fun s' q => ⟨(fun x => nomatch x), fin s' q⟩) (fun s' q => ⟨(fun x => nomatch x), fn s' q⟩) h
  | true =>
    refine wpAny_richCompare_same_room (op := .NotEq) ⟨_, hl1, rfl⟩ ⟨_, hb1, rfl⟩ F.slot_list_ne (GQ.call_here F.slot_list_ne ⟨_, hl1, rfl⟩ F.entry_list_ne (F.args_list_ne_2 _ _) ?_) hu
    exact list_neA (R := wants (fun v s' => v ≠ .notImplemented ∧ Q v s') E) l b N I Fn hl (fun s' q => ⟨(fun x => nomatch x), fin s' q⟩) (fun s' q => ⟨(fun x => nomatch x), fn s' q⟩) h
theorem rc_tupA {l b : Addr} {items items2 : Array Value} {Q : Value → Shared → Prop} (neg : Bool) (hu : A.units < cLine) (I : Nat → Shared → Prop) (Fn : Shared → Prop)
    (hl : s.heap.IsTuple l items) (hb : s.heap.IsTuple b items2)
    (turn : ∀ i (h1 : i < items.size) (h2 : i < items2.size) s, I i s → wpAny (model prog w) A.in1 (eqBool items[i] items2[i]) (fun r s' => (r = true ∧ I (i + 1) s') ∨ (r = false ∧ Fn s')) E s)
    (fin : ∀ s, I (min items.size items2.size) s → Q (.bool (if neg then !(items.size == items2.size) else (items.size == items2.size))) s) (fn : ∀ s, Fn s → Q (.bool neg) s) (h : I 0 s) : wpAny (model prog w) A (richCompare (cond neg .NotEq .Eq) (.ref l) (.ref b)) Q E s := by
  obtain ⟨⟨cls, dd, data, sl⟩, ho, hc, n, hd⟩ := id hl
  obtain ⟨⟨cls2, dd2, data2, sl2⟩, ho2, hc2, n2, hd2⟩ := id hb
  simp only at hc hd hc2 hd2
  subst hc hd hc2 hd2
  cases neg with
  | false =>
    refine wpAny_richCompare_same_room (op := .Eq) ⟨_, ho, rfl⟩ ⟨_, ho2, rfl⟩ F.slot_tuple_eq (GQ.call_here F.slot_tuple_eq ⟨_, ho, rfl⟩ F.entry_tuple_eq (F.args_tuple_eq_2 _ _) ?_) hu
    exact tup_eqA (R := wants (fun v s' => v ≠ .notImplemented ∧ Q v s') E) l b items items2 n n2 dd dd2 sl sl2 I Fn turn (fun s' q => ⟨(fun x => nomatch x), fin s' q⟩) (fun s' q => ⟨(fun x => nomatch x), fn s' q⟩) ho ho2 h
  | true =>
    refine wpAny_richCompare_same_room (op := .NotEq) ⟨_, ho, rfl⟩ ⟨_, ho2, rfl⟩ F.slot_tuple_ne (GQ.call_here F.slot_tuple_ne ⟨_, ho, rfl⟩ F.entry_tuple_ne (F.args_tuple_ne_2 _ _) ?_) hu
    exact tup_neA (R := wants (fun v s' => v ≠ .notImplemented ∧ Q v s') E) l b items items2 n n2 dd dd2 sl sl2 I Fn turn (fun s' q => ⟨(fun x => nomatch x), fin s' q⟩) (fun s' q => ⟨(fun x => nomatch x), fn s' q⟩) ho ho2 h
end
end GA
namespace Z
open PySem PySem.Spec PyProof.Rows L2
/-! ### the answer over trees -/
mutual
/-- data, and instances of the classes ks, alone -/
def nvD (ks : List Str) : D → Bool
  | .val _ => false
  | .tup l => nvDs ks l
  | .lst l => nvDs ks l
  | .ins c fs => ks.contains c && nvF ks fs
  | .non => true
  | .bl _ => true
  | .int _ => true
  | .str _ => true
def nvDs (ks : List Str) : List D → Bool
  | [] => true
  | d :: r => nvD ks d && nvDs ks r
def nvF (ks : List Str) : List (Str × D) → Bool
  | [] => true
  | p :: r => nvP ks p && nvF ks r
def nvP (ks : List Str) : Str × D → Bool
  | (_, d) => nvD ks d
end
abbrev Own := Str → D → D → Option Bool
/-- plain things: their types decline, an instance on the right is asked -/
def plainA : D → Bool
  | .non => true
  | .bl _ => true
  | .int _ => true
  | .str _ => true
  | .tup _ => true
  | _ => false
def baseO (own : Own) (a b : D) : Option Bool := match a with
  | .ins c fs => (match kindX (.of b) [] with | some (.own c') => if c' = c then own c (.ins c fs) b else none | some _ => own c (.ins c fs) b | none => none)
  | a => if flatD a && flatD b then some (eqF a b) else (match b with | .ins c gs => if plainA a then own c (.ins c gs) a else none | _ => none)
def seqO (E : D → D → Option Bool) : List D → List D → Option Bool
  | [], [] => some true
  | a :: as, b :: bs => (match E a b with | some true => seqO E as bs | some false => some false | none => none)
  | _, _ => some false
def eqO (own : Own) : Nat → D → D → Option Bool
  | 0 => baseO own
  | n + 1 => fun a b => match a, b with
    | .tup l, .tup m => seqO (eqO own n) l m
    | .lst l, .lst m => if l.length = m.length then seqO (eqO own n) l m else some false
    | a, b => baseO own a b
theorem seqO_refl {E : D → D → Option Bool} (h : ∀ a r, E a a = some r → r = true) : ∀ (l : List D) (r : Bool), seqO E l l = some r → r = true
  | [], r, q => by cases q; rfl
  | a :: l, r, q => by
    unfold seqO at q
    split at q
    · exact seqO_refl h l r q
    · rename_i hh; exact absurd (h _ _ hh) (by simp)
    · cases q
theorem eqF_refl {a : D} (h : flatD a = true) : eqF a a = true := by
  cases a <;> first | (cases h; done) | rfl | (simp [eqF]; done)
theorem baseO_refl {own : Own} (h : ∀ c a r, own c a a = some r → r = true) {a : D} {r : Bool} (q : baseO own a a = some r) : r = true := by
  unfold baseO at q
  split at q
  · rename_i c fs
    have q' : (if c = c then own c (.ins c fs) (.ins c fs) else none) = some r := q
    rw [if_pos rfl] at q'
    exact h _ _ _ q'
  · rename_i hn
    split at q
    · rename_i hf
      have f := (Bool.and_eq_true_iff.mp hf).1
      rw [eqF_refl f] at q
      exact (Option.some.inj q).symm
    · split at q
      · exact (hn _ _ rfl).elim
      · cases q
theorem eqO_refl {own : Own} (h : ∀ c a r, own c a a = some r → r = true) : ∀ (n : Nat) {a : D} {r : Bool}, eqO own n a a = some r → r = true
  | 0, a, r, q => baseO_refl h q
  | n + 1, a, r, q => by
    unfold eqO at q
    split at q
    · exact seqO_refl (fun a r => eqO_refl h n) _ _ q
    · rw [if_pos rfl] at q
      exact seqO_refl (fun a r => eqO_refl h n) _ _ q
    · exact baseO_refl h q
/-! ### one thing, one tree -/
structure Uq (K : PySem.W.Frag) (H : Hp) (ks : List Str) : Prop where
  tt : ∀ a us us', SqT K H a us → SqT K H a us' → us = us'
  tl : ∀ a us us', SqT K H a us → H a = some (.lst us') → False
  ti : ∀ a us C dx fs, SqT K H a us → H a = some (.ins C dx fs) → False
  cj : ∀ c ∈ ks, ∀ c' ∈ ks, He.ga K c = He.ga K c' → c = c'
local instance (priority := low) gdL (K : PySem.W.Frag) : Gd K := gd0 K
section
variable {K : PySem.W.Frag} {W : Wd} {ks : List Str}
theorem Rep.tup_inv {v : V} {l : List D} (r : Rep K W v (.tup l)) : ∃ a us, v = .ref a ∧ SqT K W.H a us ∧ Reps K W us l := rep_tup r
mutual
theorem Rep.fun (u : Uq K W.H ks) : ∀ {a b : D} {v : V}, Rep K W v a → Rep K W v b → nvD ks a = true → nvD ks b = true → a = b
  | .val w, b, v, r, q, ha, hb => by cases ha
  | .non, b, v, r, q, ha, hb => by
    cases r
    cases q with
    | non => rfl
    | val => cases hb
  | .bl z, b, v, r, q, ha, hb => by
    cases r
    cases q with
    | bl => rfl
    | val => cases hb
  | .int z, b, v, r, q, ha, hb => by
    cases r
    cases q with
    | int => rfl
    | val => cases hb
  | .str z, b, v, r, q, ha, hb => by
    obtain ⟨x, rfl, rfl⟩ := rep_str r
    cases q with
    | str => rfl
    | val => cases hb
  | .tup l, b, v, r, q, ha, hb => by
    obtain ⟨a, us, rfl, h1, h2⟩ := rep_tup r
    cases q with
    | tup _ us' ds h n r' => rw [u.tt a us us' h1 (.inl (.inl h))] at h2; rw [Reps.fun u h2 r' ha hb]
    | tupK _ us' ds h r' => rw [u.tt a us us' h1 (h _)] at h2; rw [Reps.fun u h2 r' ha hb]
    | lst _ us' ds h n r' => exact (u.tl a us us' h1 h).elim
    | ins _ dx c fs gs h n r' => exact (u.ti a us _ _ _ h1 h).elim
    | val => cases hb
  | .lst l, b, v, r, q, ha, hb => by
    cases r with
    | lst a us ds h n r =>
      cases q with
      | tup _ us' ds h' n r' => rw [h] at h'; cases h'
      | tupK _ us' ds h' r' => exact (u.tl a us' us (h' _) h).elim
      | lst _ us' ds h' n r' => rw [h] at h'; cases h'; rw [Reps.fun u r r' ha hb]
      | ins _ dx c fs gs h' n r' => rw [h] at h'; cases h'
      | val => cases hb
  | .ins c gs, b, v, r, q, ha, hb => by
    cases r with
    | ins a dx _ fs _ h n r =>
      cases q with
      | tup _ us' ds h' n r' => rw [h] at h'; cases h'
      | tupK _ us' ds h' r' => exact (u.ti a us' _ _ _ (h' _) h).elim
      | lst _ us' ds h' n r' => rw [h] at h'; cases h'
      | ins _ dx' c' fs' gs' h' n r' =>
        rw [h] at h'
        injection h' with h'
        injection h' with e1 e2 e3
        obtain ⟨k1, f1⟩ := Bool.and_eq_true_iff.mp (show (ks.contains c && nvF ks gs) = true from ha)
        obtain ⟨k2, f2⟩ := Bool.and_eq_true_iff.mp (show (ks.contains c' && nvF ks gs') = true from hb)
        have e := u.cj c (List.contains_iff_mem.mp k1) c' (List.contains_iff_mem.mp k2) e1
        subst e e3
        rw [RepF.fun u r r' f1 f2]
      | val => cases hb
theorem Reps.fun (u : Uq K W.H ks) : ∀ {as bs : List D} {vs : List V}, Reps K W vs as → Reps K W vs bs → nvDs ks as = true → nvDs ks bs = true → as = bs
  | [], bs, vs, r, q, ha, hb => by
    cases r
    cases q
    rfl
  | a :: as, bs, vs, r, q, ha, hb => by
    cases r with
    | cons _ _ _ _ h t =>
      cases q with
      | cons _ b _ bs h' t' =>
        obtain ⟨a1, a2⟩ := Bool.and_eq_true_iff.mp (show (nvD ks a && nvDs ks as) = true from ha)
        obtain ⟨b1, b2⟩ := Bool.and_eq_true_iff.mp (show (nvD ks b && nvDs ks bs) = true from hb)
        rw [Rep.fun u h h' a1 b1, Reps.fun u t t' a2 b2]
theorem RepF.fun (u : Uq K W.H ks) : ∀ {as bs : List (Str × D)} {vs : List (Str × V)}, RepF K W vs as → RepF K W vs bs → nvF ks as = true → nvF ks bs = true → as = bs
  | [], bs, vs, r, q, ha, hb => by
    cases r
    cases q
    rfl
  | (f, a) :: as, bs, vs, r, q, ha, hb => by
    cases r with
    | cons _ _ _ _ _ h t =>
      cases q with
      | cons _ _ b _ bs h' t' =>
        obtain ⟨a1, a2⟩ := Bool.and_eq_true_iff.mp (show (nvD ks a && nvF ks as) = true from ha)
        obtain ⟨b1, b2⟩ := Bool.and_eq_true_iff.mp (show (nvD ks b && nvF ks bs) = true from hb)
        rw [Rep.fun u h h' a1 b1, RepF.fun u t t' a2 b2]
end
end
theorem uq_of {X : Cx} {pins : List (Addr × Obj)} {σ : L2.St} {H : Hp} {s : Shared} {ks : List Str} (I : Inv X pins σ H s) (cj : ∀ c ∈ ks, ∀ c' ∈ ks, He.ga X.K c = He.ga X.K c' → c = c') : Uq X.K H ks :=
  ⟨fun a us us' h h' => I.tuple_inj h h', (fun a us us' h h' => by
    obtain ⟨x, _, p, _⟩ := I.tuple h
    obtain ⟨y, _, q, _⟩ := I.list (.inl (.inl h'))
    exact SeqAt.ne_of_list_tuple q.isList (isT p) rfl), (fun a us C dx fs h h' => by
    obtain ⟨x, _, p, _⟩ := I.tuple h
    obtain ⟨mA, J, _⟩ := ins_get I.hok h'
    obtain ⟨od, J, _⟩ := J.look
    obtain ⟨o, ho, hc, _⟩ := p
    have := J.at_
    rw [ho] at this
    cases this
    have e := J.cls
    rw [hc] at e
    cases e), cj⟩
/-! ### what is run -/
abbrev Wd0 (H : Hp) : Wd := ⟨H, [], [], [], []⟩
theorem pers0 {H H' : Hp} (e : L2.Ext H H') : Pers (Wd0 H) (Wd0 H') := fun b o h _ => ⟨e b o h, by simp⟩
structure OwnQ (P : Program) (w : World) (K : PySem.W.Frag) (mg : Str → Option Value) (base : Heap) (CX : CXT) (k : Nat) (own : Own) (ks : List Str) : Prop where
  at_ : ∀ c a b r, own c a b = some r → c ∈ ks → ∃ (j : Nat) (fa : Addr) (d : DSp), j ≤ k ∧ MethC P w K mg base CX j c "__eq__" (rawSp K 2 d) [] ∧ OwnE K (He.ga K c) fa ∧ ClsI K (He.ga K c) ∧ d [.of a, .of b] [] (fun x _ => x = .of (.bl r))
  refl : ∀ c a r, own c a a = some r → r = true
  cj : ∀ c ∈ ks, ∀ c' ∈ ks, He.ga K c = He.ga K c' → c = c'
section
variable {X : Cx} {CX : CXT} {k : Nat} {E : XK} {own : Own} {ks : List Str}
def EqAtO (X : Cx) (m : Nat) (F : D → D → Option Bool) (ks : List Str) : Prop := ∀ (A : Around) (pins : List (Addr × Obj)) (s : Shared) (σ : L2.St) (H : Hp) (x y : V) (u v : Value) (a b : D) (r : Bool), Sub X m A → Inv X pins σ H s → RelV x u → RelV y v →
  Rep X.K (Wd0 H) x a → Rep X.K (Wd0 H) y b → nvD ks a = true → nvD ks b = true → F a b = some r →
  wpAny (model X.prog X.w) A (eqBool u v) (fun r' s' => r' = r ∧ ∃ H', Inv X pins σ H' s' ∧ L2.Ext H H') X.xe s
def RcAtO (X : Cx) (m : Nat) (F : D → D → Option Bool) (ks : List Str) (neg : Bool) : Prop := ∀ (A : Around) (pins : List (Addr × Obj)) (s : Shared) (σ : L2.St) (H : Hp) (x y : V) (u v : Value) (a b : D) (r : Bool), Sub X m A → Inv X pins σ H s → RelV x u → RelV y v →
  Rep X.K (Wd0 H) x a → Rep X.K (Wd0 H) y b → nvD ks a = true → nvD ks b = true → F a b = some r →
  wpAny (model X.prog X.w) A (richCompare (cond neg .NotEq .Eq) u v) (fun r' s' => r' = .bool (cond neg (!r) r) ∧ ∃ H', Inv X pins σ H' s' ∧ L2.Ext H H') X.xe s
theorem tight0 {W : Wd} (h : W.wr = []) {C : Cs} : Tight W C := fun b hb => by rw [h] at hb; cases hb
theorem mem00 {K : PySem.W.Frag} {H : Hp} : Mem K (Wd0 H) [] := mem0
theorem plain_of {pins : List (Addr × Obj)} {s : Shared} {σ : L2.St} {H : Hp} {x : V} {u : Value} {a : D} (I : Inv X pins σ H s) (rx : RelV x u) (ra : Rep X.K (Wd0 H) x a) (hp : plainA a = true) : ∃ T, GR.Plain s u T ∧ T ∈ ["NoneType", "bool", "int", "str", "list", "tuple", "dict", "float", "set"] := by
  cases a with
  | non => cases ra; cases rx; exact ⟨_, .non, by decide⟩
  | bl b => cases ra; cases rx; exact ⟨_, .bl _, by decide⟩
  | int i => cases ra; obtain ⟨t, rfl⟩ := rx; exact ⟨_, .int _ _, by decide⟩
  | str z => obtain ⟨z', rfl, rfl⟩ := rep_str ra; obtain ⟨t, rfl⟩ := rx; exact ⟨_, .str _ _, by decide⟩
  | tup l =>
    obtain ⟨p, us, rfl, h1, h2⟩ := rep_tup ra
    obtain rfl : u = Value.ref p := rx
    obtain ⟨its, rv, e, _⟩ := I.tuple h1
    exact ⟨_, .tup _ _ (isT e), by decide⟩
  | _ => cases hp
theorem rc_right (O : OwnQ X.prog X.w X.K X.mg X.base CX k own ks) (hx : Passes CX X E) (neg : Bool) (A : Around) (pins : List (Addr × Obj)) (s : Shared) (σ : L2.St) (H : Hp) (x y : V) (u v : Value) (a : D) (c : Str) (gs : List (Str × D)) (r : Bool) (sb : Sub X (k + 2) A) (I : Inv X pins σ H s) (rx : RelV x u) (ry : RelV y v)
    (ra : Rep X.K (Wd0 H) x a) (rb : Rep X.K (Wd0 H) y (.ins c gs)) (hp : plainA a = true) (nb : nvD ks (.ins c gs) = true) (ho : own c (.ins c gs) a = some r) :
    wpAny (model X.prog X.w) A (richCompare (cond neg .NotEq .Eq) u v) (fun r' s' => r' = .bool (cond neg (!r) r) ∧ ∃ H', Inv X pins σ H' s' ∧ L2.Ext H H') X.xe s := by
  have hc : c ∈ ks := List.contains_iff_mem.mp (Bool.and_eq_true_iff.mp (show (ks.contains c && nvF ks gs) = true from nb)).1
  obtain ⟨j, fa, d, hj, hm, oe, ci, hd⟩ := O.at_ c _ a r ho hc
  obtain ⟨fd, ps, F, bd⟩ := own_get hm oe
  obtain ⟨T, pl, hT⟩ := plain_of I rx ra hp
  have rb' := rb
  cases rb' with
  | ins p dx _ fs _ hpp n rr =>
    obtain rfl : v = Value.ref p := ry
    obtain ⟨mA, J, _⟩ := ins_get I.hok hpp
    obtain ⟨od, J, _⟩ := J.look
    have hs := GR.kit_one (M := model X.prog X.w) I.kIn (ci.ty T hT).2 rfl
    have hsp : rawSp X.K 2 d [.ref p, x] H (fun z H' => ∃ b', z = .bl b' ∧ (b' = r ∧ L2.Ext H H')) E :=
      ⟨rfl, Wd0 H, [], [.of (.ins c gs), .of a], rfl, rfl, mem00, tight0 rfl, .cons _ _ _ _ rb (.cons _ _ _ _ ra .nil), _, hd, fun z C' e W' w' ex _ rw => by
        subst e
        cases rw
        exact ⟨r, rfl, rfl, fun a o q => ex.keep a o q (by simp)⟩⟩
    cases neg with
    | false =>
      refine GR.right_eq sb.room.units0 I.kIn pl J hs oe.eq oe.fn ?_
      refine wpAny_mono (own_call F bd hx (sb.room.mono (by omega)) sb.fr I (show RelV (.ref p) (.ref p) from rfl) rx hsp) (fun r' s' z => ?_) fun _ _ e => e
      obtain ⟨b', rfl, H', I', rfl, ex⟩ := z
      exact ⟨rfl, H', I', ex⟩
    | true =>
      have hu1 : A.units + 1 < cLine := by have := sb.room.in1.units0; exact this
      refine GR.right_ne hu1 I.kIn pl J hs oe.ob oe.eq oe.ne oe.fn ?_
      refine wpAny_mono (own_call F bd hx (sb.room.in1.mono (by omega)) sb.fr I (show RelV (.ref p) (.ref p) from rfl) rx hsp) (fun r' s' z => ?_) fun _ _ e => e
      obtain ⟨b', rfl, H', I', rfl, ex⟩ := z
      exact ⟨b', rfl, rfl, H', I', ex⟩
theorem rc_base (O : OwnQ X.prog X.w X.K X.mg X.base CX k own ks) (hx : Passes CX X E) (neg : Bool) : RcAtO X (k + 2) (baseO own) ks neg := by
  intro A pins s σ H x y u v a b r sb I rx ry ra rb na nb h
  unfold baseO at h
  split at h
  · rename_i c gs
    have key : own c (.ins c gs) b = some r ∧ ∃ kd, kindX (.of b) [] = some kd ∧ (kd = .own c ∨ ∀ c', kd ≠ .own c') := by
      split at h
      · rename_i c' hk
        split at h
        · rename_i e; subst e; exact ⟨h, _, hk, .inl rfl⟩
        · cases h
      · rename_i kd hn hk; exact ⟨h, kd, hk, .inr fun c' e => hn c' e⟩
      · cases h
    obtain ⟨ho, kd, hk, hkd⟩ := key
    have hc : c ∈ ks := List.contains_iff_mem.mp (Bool.and_eq_true_iff.mp (show (ks.contains c && nvF ks gs) = true from na)).1
    obtain ⟨j, fa, d, hj, hm, oe, ci, hd⟩ := O.at_ c _ b r ho hc
    obtain ⟨fd, ps, F, bd⟩ := own_get hm oe
    have ra' := ra
    cases ra' with
    | ins p dx _ fs _ hp n rr =>
      obtain rfl : u = Value.ref p := rx
      have tl : ∃ t, TyX X.K H y t ∧ PySem.W.notFirst X.K (He.ga X.K c) t = true := by
        rcases hkd with rfl | hn
        · exact ⟨_, kindX_ok (C := []) mem00 (x := .of b) rb hk (fun c3 e => by cases e; exact ci), notFirst_self⟩
        · exact ⟨_, kindX_ok (C := []) mem00 (x := .of b) rb hk (fun c3 e => absurd e (hn c3)), by rw [kdV_ty hn]; exact notFirst_ty (notF_tab _ kd (kd_in hn))⟩
      obtain ⟨t, ty, hnf⟩ := tl
      obtain ⟨mA, J, _⟩ := ins_get I.hok hp
      obtain ⟨od, J, _⟩ := J.look
      obtain ⟨Pk, Z, pz, _⟩ := kit_of I ry ty
      obtain ⟨m, hF⟩ := I.fr
      have hsp : rawSp X.K 2 d [.ref p, y] H (fun z H' => ∃ b', z = .bl b' ∧ (b' = r ∧ L2.Ext H H')) E :=
        ⟨rfl, Wd0 H, [], [.of (.ins c gs), .of b], rfl, rfl, mem00, tight0 rfl, .cons _ _ _ _ ra (.cons _ _ _ _ rb .nil), _, hd, fun z C' e W' w' ex _ rw => by
          subst e
          cases rw
          exact ⟨r, rfl, rfl, fun a o q => ex.keep a o q (by simp)⟩⟩
      cases neg with
      | false =>
        refine PySem.W.cmp_K (op := .Eq) (tb := t) sb.room.units0 hF I.ok.mod.kin J (Z.ty _ _ I.kIn pz) hnf oe.eq oe.fn ?_
        refine wpAny_mono (own_call F bd hx (sb.room.mono (by omega)) sb.fr I (show RelV (.ref p) (.ref p) from rfl) ry hsp) (fun r' s' z => ?_) fun _ _ e => e
        obtain ⟨b', rfl, H', I', rfl, ex⟩ := z
        exact ⟨rfl, H', I', ex⟩
      | true =>
        have hu1 : A.units + 1 < cLine := by have := sb.room.in1.units0; exact this
        refine ZO.rcNe_K hu1 I.kIn J (Z.ty _ _ I.kIn pz) hnf oe.ob oe.eq oe.ne oe.fn ?_
        refine wpAny_mono (own_call F bd hx (sb.room.in1.mono (by omega)) sb.fr I (show RelV (.ref p) (.ref p) from rfl) ry hsp) (fun r' s' z => ?_) fun _ _ e => e
        obtain ⟨b', rfl, H', I', rfl, ex⟩ := z
        exact ⟨b', rfl, rfl, H', I', ex⟩
  · split at h
    · rename_i hf
      obtain ⟨f1, f2⟩ := Bool.and_eq_true_iff.mp hf
      cases h
      have q := rc_flat (A := A) (s := s) (flat_rep ra f1) (flat_rep rb f2) rx ry
      rw [eqF_ok ra rb f1 f2] at q
      cases neg with
      | false => exact q.1 _ _ _ _ ⟨rfl, H, I, fun _ _ h => h⟩
      | true => exact q.2 _ _ _ _ ⟨rfl, H, I, fun _ _ h => h⟩
    · cases b with
      | ins c gs =>
        have h2 : (if plainA a = true then own c (.ins c gs) a else none) = some r := h
        split at h2
        · rename_i hp
          exact rc_right O hx neg A pins s σ H x y u v a c gs r sb I rx ry ra rb hp nb h2
        · cases h2
      | _ => cases h
/-- == inside a builtin, of a thing and another value -/
theorem eqBool_refA {prog : Program} {w : World} {A : Around} {E : Value → Shared → Prop} {s : Shared} {l : Addr} {v : Value} {Q : Bool → Shared → Prop} (hne : v ≠ .ref l) (h : wpAny (model prog w) A (richCompare .Eq (.ref l) v) (fun v s' => ∃ r, v = .bool r ∧ Q r s') E s) : wpAny (model prog w) A (eqBool (.ref l) v) Q E s := by
  unfold eqBool
  refine wpAny_holding ?_
  refine wpAny_ite_split (fun hab => absurd (eq_of_beq hab).symm hne) (fun _ => ?_)
  refine wpAny_bind (wpAny_mono h (fun v s' hv => ?_) fun _ _ x => x)
  obtain ⟨r, rfl, q⟩ := hv
  exact wpAny_truthy_bool q
/-- within the flat, or a thing on the left -/
def FlO (F : D → D → Option Bool) : Prop := ∀ a b r, F a b = some r → flatD a = true → (flatD b = true ∧ r = eqF a b) ∨ (plainA a = true ∧ ∃ c gs, b = .ins c gs)
theorem rep_ref {K : PySem.W.Frag} {W : Wd} {v : V} {a : D} (r : Rep K W v a) (h : flatD a = false) (hn : ∀ z : V, a ≠ .val z) : ∃ p, v = .ref p := by
  cases r with
  | tup p => exact ⟨p, rfl⟩
  | tupK p => exact ⟨p, rfl⟩
  | lst p => exact ⟨p, rfl⟩
  | ins p => exact ⟨p, rfl⟩
  | val => exact absurd rfl (hn v)
  | _ => cases h
theorem eq_of_rc {F : D → D → Option Bool} {m : Nat} (hr : ∀ a r, F a a = some r → r = true) (cj : ∀ c ∈ ks, ∀ c' ∈ ks, He.ga X.K c = He.ga X.K c' → c = c') (hf : FlO F) (h : RcAtO X m F ks false) : EqAtO X m F ks := by
  intro A pins s σ H x y u v a b r sb I rx ry ra rb na nb q
  cases fa : flatD a with
  | true =>
    rcases hf a b r q fa with ⟨fb, rfl⟩ | ⟨hp, c, gs, rfl⟩
    rotate_left
    · obtain ⟨T, pl, _⟩ := plain_of I rx ra hp
      cases rb with
      | ins p dx _ fs _ hpp n rr =>
        obtain rfl : v = Value.ref p := ry
        have hne : u ≠ Value.ref p := fun e => by
          subst e
          cases pl with
          | tup l its h => cases a <;> first | (cases fa; done) | (cases ra; rcases rx with ⟨_, e⟩; cases e; done) | (cases ra; cases rx; done)
        refine GR.eqBool_plain pl hne (wpAny_mono (h A pins s σ H x (.ref p) u _ a _ r sb I rx rfl ra (.ins p dx _ fs _ hpp n rr) na nb q) (fun r' s' z => ?_) fun _ _ e => e)
        obtain ⟨rfl, z⟩ := z
        exact ⟨r, rfl, rfl, z⟩
    have e := eqAt_V (A := A) (s := s) rx ry (flat_rep ra fa) (flat_rep rb fb)
    rw [eqF_ok ra rb fa fb] at e
    exact e _ _ _ _ ⟨rfl, H, I, fun _ _ h => h⟩
  | false =>
    obtain ⟨p, rfl⟩ := rep_ref ra fa (fun w e => by subst e; cases na)
    obtain rfl : u = Value.ref p := rx
    by_cases e : v = .ref p
    · subst e
      have ey : y = .ref p := by
        cases y with
        | ref p' => exact congrArg V.ref (by have e : Value.ref p = Value.ref p' := ry; injection e with e; exact e.symm)
        | int i => obtain ⟨t, e⟩ := ry; cases e
        | str z => obtain ⟨t, e⟩ := ry; cases e
        | byt z => obtain ⟨t, e⟩ := ry; cases e
        | flt z => obtain ⟨t, e⟩ := ry; cases e
        | _ => cases ry
      subst ey
      have e := Rep.fun (uq_of I cj) ra rb na nb
      subst e
      have er := hr _ _ q
      subst er
      exact SeqAt.EqAt.same (A := A) (s := s) (.ref p) X.prog X.w X.xe _ ⟨rfl, H, I, fun _ _ h => h⟩
    · refine eqBool_refA e (wpAny_mono (h A pins s σ H (.ref p) y _ v a b r sb I rfl ry ra rb na nb q) (fun r' s' z => ?_) fun _ _ e => e)
      obtain ⟨rfl, z⟩ := z
      exact ⟨r, rfl, rfl, z⟩
theorem flO_base (own : Own) : FlO (baseO own) := fun a b r h f => by
  unfold baseO at h
  split at h
  · cases f
  · split at h
    · rename_i hf; exact .inl ⟨(Bool.and_eq_true_iff.mp hf).2, (Option.some.inj h).symm⟩
    · cases b with
      | ins c gs =>
        have h2 : (if plainA a = true then own c (.ins c gs) a else none) = some r := h
        split at h2
        · rename_i hp; exact .inr ⟨hp, c, gs, rfl⟩
        · cases h2
      | _ => cases h
theorem flO_eqO (own : Own) : ∀ n, FlO (eqO own n)
  | 0 => flO_base own
  | n + 1 => fun a b r h f => by
    unfold eqO at h
    split at h
    · cases f
    · cases f
    · exact flO_base own a b r h f
/-- what the loop over the items keeps -/
def LoopO (X : Cx) (pins : List (Addr × Obj)) (σ : L2.St) (H : Hp) (s' : Shared) : Prop := ∃ H', Inv X pins σ H' s' ∧ L2.Ext H H'
theorem nvDs_at : ∀ {l : List D} {i : Nat} {d : D}, nvDs ks l = true → l[i]? = some d → nvD ks d = true
  | [], i, d, _, h => by simp at h
  | a :: l, 0, d, n, h => by cases h; exact (Bool.and_eq_true_iff.mp (show (nvD ks a && nvDs ks l) = true from n)).1
  | a :: l, i + 1, d, n, h => nvDs_at (l := l) (i := i) (Bool.and_eq_true_iff.mp (show (nvD ks a && nvDs ks l) = true from n)).2 h
theorem turnO {F : D → D → Option Bool} {m : Nat} (h : EqAtO X m F ks) {A : Around} (sb : Sub X (m + 1) A) {pins : List (Addr × Obj)} {σ : L2.St} {H : Hp} {as bs : List D} {xs ys : List V} {its its2 : List Value} {r : Bool} (na : nvDs ks as = true) (nb : nvDs ks bs = true) (pa : Reps X.K (Wd0 H) xs as) (pb : Reps X.K (Wd0 H) ys bs) (r1 : Vals xs its) (r2 : Vals ys its2)
    (i : Nat) (h1 : i < its.toArray.size) (h2 : i < its2.toArray.size) (s' : Shared) (l : LoopO X pins σ H s' ∧ seqO F (as.drop i) (bs.drop i) = some r) :
    wpAny (model X.prog X.w) A.in1 (eqBool its.toArray[i] its2.toArray[i]) (fun z s2 => (z = true ∧ LoopO X pins σ H s2 ∧ seqO F (as.drop (i + 1)) (bs.drop (i + 1)) = some r) ∨ (z = false ∧ LoopO X pins σ H s2 ∧ r = false)) X.xe s' := by
  obtain ⟨⟨H1, I1, e1⟩, hq⟩ := l
  have g1 : its[i]? = some its.toArray[i] := by
    have h1' : i < its.length := by simpa using h1
    rw [List.getElem?_eq_getElem h1'] <;> simp
  have g2 : its2[i]? = some its2.toArray[i] := by
    have h2' : i < its2.length := by simpa using h2
    rw [List.getElem?_eq_getElem h2'] <;> simp
  have k1 : i < xs.length := by rw [r1.length]; simpa using h1
  have k2 : i < ys.length := by rw [r2.length]; simpa using h2
  obtain ⟨u, hu, ru⟩ := r1.get (List.getElem?_eq_getElem k1)
  obtain ⟨v, hv, rv⟩ := r2.get (List.getElem?_eq_getElem k2)
  rw [g1] at hu
  rw [g2] at hv
  rw [Option.some.inj hu, Option.some.inj hv]
  obtain ⟨da, ea, ra⟩ := pa.at' (List.getElem?_eq_getElem k1)
  obtain ⟨db, eb, rb⟩ := pb.at' (List.getElem?_eq_getElem k2)
  have la : i < as.length := (List.getElem?_eq_some_iff.mp ea).1
  have lb : i < bs.length := (List.getElem?_eq_some_iff.mp eb).1
  rw [List.drop_eq_getElem_cons la, List.drop_eq_getElem_cons lb] at hq
  have fa : as[i] = da := by rw [List.getElem?_eq_getElem la] at ea; exact Option.some.inj ea
  have fb : bs[i] = db := by rw [List.getElem?_eq_getElem lb] at eb; exact Option.some.inj eb
  rw [fa, fb] at hq
  unfold seqO at hq
  have nda := nvDs_at na ea
  have ndb := nvDs_at nb eb
  have run := fun z hz => h A.in1 pins s' σ H1 _ _ u v da db z sb.in1 I1 ru rv (Rep.mono (pers0 e1) ra) (Rep.mono (pers0 e1) rb) nda ndb hz
  split at hq
  · rename_i hz
    refine wpAny_mono (run true hz) (fun z s2 q => ?_) fun _ _ x => x
    obtain ⟨rfl, H2, I2, e2⟩ := q
    exact .inl ⟨rfl, ⟨H2, I2, fun a o q => e2 a o (e1 a o q)⟩, hq⟩
  · rename_i hz
    refine wpAny_mono (run false hz) (fun z s2 q => ?_) fun _ _ x => x
    obtain ⟨rfl, H2, I2, e2⟩ := q
    exact .inr ⟨rfl, ⟨H2, I2, fun a o q => e2 a o (e1 a o q)⟩, (Option.some.inj hq).symm⟩
  · cases hq
theorem seqO_end {F : D → D → Option Bool} {l m : List D} {r : Bool} (h : seqO F (l.drop (min l.length m.length)) (m.drop (min l.length m.length)) = some r) : r = (l.length == m.length) := by
  rcases Nat.lt_trichotomy l.length m.length with q | q | q
  · rw [Nat.min_eq_left (Nat.le_of_lt q), List.drop_length] at h
    rw [List.drop_eq_getElem_cons q] at h
    have : some false = some r := h
    rw [← Option.some.inj this]
    exact (beq_eq_false_iff_ne.mpr (Nat.ne_of_lt q)).symm
  · rw [← q, Nat.min_self, List.drop_length] at h
    rw [show m.drop l.length = [] by rw [q, List.drop_length]] at h
    cases h
    exact (beq_iff_eq.mpr q).symm
  · rw [Nat.min_eq_right (Nat.le_of_lt q), List.drop_length] at h
    rw [List.drop_eq_getElem_cons q] at h
    have : some false = some r := h
    rw [← Option.some.inj this]
    exact (beq_eq_false_iff_ne.mpr (Nat.ne_of_gt q)).symm
theorem rc_step {F : D → D → Option Bool} {m : Nat} (h : EqAtO X m F ks) (neg : Bool) {A : Around} {pins : List (Addr × Obj)} {s : Shared} {σ : L2.St} {H : Hp} {x y : V} {u v : Value} {l l' : List D} {r : Bool} (sb : Sub X (m + 1) A) (I : Inv X pins σ H s) (rx : RelV x u) (ry : RelV y v)
    (na : nvDs ks l = true) (nb : nvDs ks l' = true) (hq : (Rep X.K (Wd0 H) x (.tup l) ∧ Rep X.K (Wd0 H) y (.tup l') ∧ seqO F l l' = some r) ∨ (Rep X.K (Wd0 H) x (.lst l) ∧ Rep X.K (Wd0 H) y (.lst l') ∧ (if l.length = l'.length then seqO F l l' else some false) = some r)) :
    wpAny (model X.prog X.w) A (richCompare (cond neg .NotEq .Eq) u v) (fun r' s' => r' = .bool (cond neg (!r) r) ∧ ∃ H', Inv X pins σ H' s' ∧ L2.Ext H H') X.xe s := by
  rcases hq with ⟨ra, rb, hq⟩ | ⟨ra, rb, hq⟩
  · obtain ⟨p, us, rfl, h1, h2⟩ := rep_tup ra
    obtain ⟨p', us', rfl, h1', h2'⟩ := rep_tup rb
    obtain rfl : u = Value.ref p := rx
    obtain rfl : v = Value.ref p' := ry
    obtain ⟨its, rv, e, _⟩ := I.tuple h1
    obtain ⟨its2, rv2, e2, _⟩ := I.tuple h1'
    have g1 := rv.length
    have g2 := rv2.length
    have g3 := h2.len
    have g4 := h2'.len
    refine GA.rc_tupA neg sb.room.units0 (fun i s' => LoopO X pins σ H s' ∧ seqO F (l.drop i) (l'.drop i) = some r) (fun s' => LoopO X pins σ H s' ∧ r = false) (isT e) (isT e2) (fun i k1 k2 s' q => turnO h sb na nb h2 h2' rv rv2 i k1 k2 s' q) (fun s' q => ?_) (fun s' q => ?_) ⟨⟨H, I, fun _ _ h => h⟩, by simpa using hq⟩
    · have q2 := q.2
      rw [List.size_toArray, List.size_toArray, ← g1, ← g2, g3, g4] at q2
      have er := seqO_end q2
      refine ⟨?_, q.1⟩
      rw [List.size_toArray, List.size_toArray, ← g1, ← g2, g3, g4, ← er]
      cases neg <;> rfl
    · refine ⟨?_, q.1⟩
      rw [q.2]
      cases neg <;> rfl
  · cases ra with
    | lst p us _ h1 _ h2 =>
      cases rb with
      | lst p' us' _ h1' _ h2' =>
        obtain rfl : u = Value.ref p := rx
        obtain rfl : v = Value.ref p' := ry
        have g3 := h2.len
        have g4 := h2'.len
        by_cases hl : l.length = l'.length
        · rw [if_pos hl] at hq
          have lists : ∀ s', LoopO X pins σ H s' → ∃ (its its2 : List Value) (n n2 : Nat), s'.heap.get? p = some { cls := .type "list", data := .seq its.toArray n } ∧ s'.heap.get? p' = some { cls := .type "list", data := .seq its2.toArray n2 } ∧ Vals us its ∧ Vals us' its2 := fun s' q => by
            obtain ⟨H1, I1, e1⟩ := q
            obtain ⟨z, its, k, r, e⟩ := I1.hok p _ (e1 _ _ h1)
            obtain ⟨z2, its2, k2, r2, e2⟩ := I1.hok p' _ (e1 _ _ h1')
            exact ⟨its, its2, k, k2, e, e2, r, r2⟩
          refine GA.rc_listA (N := l.length) neg sb.room.units0 (fun i s' => LoopO X pins σ H s' ∧ seqO F (l.drop i) (l'.drop i) = some r) (fun s' => LoopO X pins σ H s' ∧ r = false) ⟨fun i s' q => ?_, fun s' q => ?_⟩ (fun s' q => ?_) (fun s' q => ?_) ⟨⟨H, I, fun _ _ h => h⟩, by simpa using hq⟩
          · obtain ⟨its, its2, n, n2, e1, e2, v1, v2⟩ := lists s' q.1
            exact ⟨its.toArray, its2.toArray, n, n2, e1, e2, by rw [List.size_toArray, ← v1.length, g3], by rw [List.size_toArray, ← v2.length, g4, hl], fun k1 k2 => turnO h sb na nb h2 h2' v1 v2 i k1 k2 s' q⟩
          · obtain ⟨its, its2, n, n2, e1, e2, v1, v2⟩ := lists s' q.1
            exact ⟨its.toArray, its2.toArray, n, n2, e1, e2, by rw [List.size_toArray, ← v1.length, g3], by rw [List.size_toArray, ← v2.length, g4, hl]⟩
          · have q2 := q.2
            rw [List.drop_length, show l'.drop l.length = [] by rw [hl, List.drop_length]] at q2
            cases q2
            exact ⟨by cases neg <;> rfl, q.1⟩
          · refine ⟨?_, q.1⟩
            rw [q.2]
            cases neg <;> rfl
        · rw [if_neg hl] at hq
          cases hq
          obtain ⟨its, rv, e, _⟩ := I.list (.inl (.inl h1))
          obtain ⟨its2, rv2, e2, _⟩ := I.list (.inl (.inl h1'))
          have hsz : (its.toArray.size != its2.toArray.size) = true := by
            rw [bne_iff_ne, List.size_toArray, List.size_toArray, ← rv.length, ← rv2.length, g3, g4]; exact hl
          have hu := sb.room.units0
          cases neg with
          | false => exact (SeqAt.RcAt.lists_lengths e.isList e2.isList hsz hu) _ _ _ _ ⟨rfl, H, I, fun _ _ h => h⟩
          | true => exact (SeqAt.RcNeAt.lists_lengths e.isList e2.isList hsz hu) _ _ _ _ ⟨rfl, H, I, fun _ _ h => h⟩
theorem eqO_run (O : OwnQ X.prog X.w X.K X.mg X.base CX k own ks) (hx : Passes CX X E) : ∀ (n : Nat), (∀ neg, RcAtO X (k + 2 + n) (eqO own n) ks neg) ∧ EqAtO X (k + 2 + n) (eqO own n) ks
  | 0 => ⟨rc_base O hx, eq_of_rc (fun a r => eqO_refl O.refl 0) O.cj (flO_eqO own 0) (rc_base O hx false)⟩
  | n + 1 => by
    have ih := (eqO_run O hx n).2
    have rc : ∀ neg, RcAtO X (k + 2 + (n + 1)) (eqO own (n + 1)) ks neg := fun neg => by
      intro A pins s σ H x y u v a b r sb I rx ry ra rb na nb q
      unfold eqO at q
      split at q
      · exact rc_step ih neg (m := k + 2 + n) sb I rx ry na nb (.inl ⟨ra, rb, q⟩)
      · exact rc_step ih neg (m := k + 2 + n) sb I rx ry na nb (.inr ⟨ra, rb, q⟩)
      · exact rc_base O hx neg A pins s σ H x y u v a b r (sb.mono (by omega)) I rx ry ra rb na nb q
    exact ⟨rc, eq_of_rc (fun a r => eqO_refl O.refl (n + 1)) O.cj (flO_eqO own (n + 1)) (rc false)⟩
/-! ### as a rule -/
def rEqO (K : PySem.W.Frag) (own : Own) (ks : List Str) (n : Nat) (neg : Bool) : R2 := fun x y H Q => ∃ a b r, Rep K (Wd0 H) x a ∧ Rep K (Wd0 H) y b ∧ nvD ks a = true ∧ nvD ks b = true ∧ eqO own n a b = some r ∧ ∀ H', L2.Ext H H' → Q (.bl (cond neg (!r) r)) H'
theorem op_eqO (O : OwnQ X.prog X.w X.K X.mg X.base CX k own ks) (hx : Passes CX X E) (n : Nat) (neg : Bool) (hr : Room (k + 2 + n) X.A) : OpR X (compareOp (cond neg .NotEq .Eq)) (rEqO X.K own ks n neg) := by
  intro pins s σ H x y v u Q I rx ry hq
  obtain ⟨a, b, r, ra, rb, na, nb, hh, q⟩ := hq
  have key := (eqO_run O hx n).1 neg X.A pins s σ H x y v u a b r ⟨hr, rfl⟩ I rx ry ra rb na nb hh
  have fin : wpAny (model X.prog X.w) X.A (richCompare (cond neg .NotEq .Eq) v u) (EP X pins σ Q) X.xe s := by
    refine wpAny_mono key (fun r' s' z => ?_) fun _ _ x => x
    obtain ⟨rfl, H', I', e⟩ := z
    exact ⟨.bl (cond neg (!r) r), H', I', rfl, q H' e⟩
  cases neg with
  | false => exact fin
  | true => exact fin
end
section
variable {K : PySem.W.Frag} [Gd K] {W : Wd} {S : Sl} {C : Cs} {σ : L2.St} {H' : Hp}
theorem Ext.grow (e : L2.Ext W.H H') : Ext W { W with H := H' } := ⟨fun b o h _ => e b o h, fun b h => by
  cases q : W.H b with
  | none => exact absurd q h
  | some o =>
    show H' b ≠ none
    rw [e b o q]; simp, fun _ h => .inl h, fun _ h _ _ => h, fun _ h => .inl h, rfl, [], by simp⟩
theorem Mem.grow (m : Mem K W C) (e : L2.Ext W.H H') : Mem K { W with H := H' } C := ⟨m.wrws, m.pvws, m.dis, fun b h => (Ext.grow e).there b (m.dom b h), m.len, fun i dc a fp h1 h2 h3 => by
  obtain ⟨q1, q2⟩ := m.cell i dc a fp h1 h2 h3
  refine ⟨q1.pers ((Ext.grow e).pers m.wrws) fun b hb => ?_, q2⟩
  cases q : W.H b with
  | none => exact absurd q (m.dom b (m.wrws b (q2 b hb)))
  | some o => exact e b o q, m.sep⟩
theorem Sta.grow (s : Sta K W S C σ) (e : L2.Ext W.H H') : Sta K { W with H := H' } S C σ := ⟨s.m.grow e, s.s.mono s.m (Ext.grow e), Gd.ext s.g (Ext.grow e)⟩
@[irreducible] def dEqO (own : Own) (ks : List Str) (n : Nat) (neg : Bool) : DR2 := fun x y C Q => match rdD x C, rdD y C with
  | some a, some b => (nvD ks a = true ∧ nvD ks b = true) ∧ (match eqO own n a b with | some r => Q (.of (.bl (cond neg (!r) r))) C | none => False)
  | _, _ => False
theorem refR_eqO {own : Own} {ks : List Str} {n : Nat} {neg : Bool} : RefR K (rEqO K own ks n neg) (dEqO own ks n neg) := fun W S C σ st v u x y QD Q rx ry q k => by
  unfold dEqO at q
  split at q
  · rename_i a b ha hb
    obtain ⟨⟨na, nb⟩, q⟩ := q
    split at q
    · rename_i r hr
      have p0 : ∀ {v : V} {d : D}, Rep K { W with ws := [] } v d → Rep K (Wd0 W.H) v d := fun h => Rep.mono (W := { W with ws := [] }) (W' := Wd0 W.H) (fun b o h n => ⟨h, by simp⟩) h
      exact ⟨a, b, r, p0 (rdD_ok st.m rx ha), p0 (rdD_ok st.m ry hb), na, nb, hr, fun H' e => k _ (.of (.bl (cond neg (!r) r))) { W with H := H' } C (Ext.grow e) (st.grow e) (Rep.bl _) q⟩
    · exact q.elim
  · exact q.elim
variable {X : Cx} {CX : CXT} {k : Nat} {E : XK} {own : Own} {ks : List Str}
theorem oq_eqO (n : Nat) (O : OwnQ X.prog X.w K X.mg X.base CX k own ks) {j : Nat} (hr : Room j X.A) (hj : k + 2 + n ≤ j) (hx : Passes CX X E) (hK : X.K = K) : QOp K X (compareOp .Eq) (rEqO K own ks n false) (dEqO own ks n false) := ⟨by subst hK; exact op_eqO O hx n false (hr.mono hj), refR_eqO⟩
theorem oq_neO (n : Nat) (O : OwnQ X.prog X.w K X.mg X.base CX k own ks) {j : Nat} (hr : Room j X.A) (hj : k + 2 + n ≤ j) (hx : Passes CX X E) (hK : X.K = K) : QOp K X (compareOp .NotEq) (rEqO K own ks n true) (dEqO own ks n true) := ⟨by subst hK; exact op_eqO O hx n true (hr.mono hj), refR_eqO⟩
end
end Z

set_option Elab.async false
set_option linter.all false
set_option maxRecDepth 100000
set_option maxHeartbeats 4000000
/-! ### pieces within data compared -/
namespace Z
open PySem PySem.Spec PyProof.Rows L2
theorem dStr_inj {a b : List Nat} (h : D.str a = D.str b) : a = b := by injection h
theorem dStrs_inj {a b : List (List Nat)} (h : dStrs a = dStrs b) : a = b := (List.map_inj_right (fun _ _ e => dStr_inj e)).mp h
theorem dSg_inj {a b : SG} (h : dSg a = dSg b) : a = b := by
  obtain ⟨a1, a2, a3, a4⟩ := a
  obtain ⟨b1, b2, b3, b4⟩ := b
  unfold dSg at h
  injection h with h
  injection h with h1 h
  injection h with h2 h
  injection h with h3 h
  injection h with h4 h
  injection h1 with h1
  injection h2 with h2
  injection h3 with h3
  injection h4 with h4
  have h4' : a4 = b4 := dStrs_inj h4
  simp only at h1 h2 h3
  subst h1 h2 h3 h4'
  rfl
theorem dPc_inj {a b : PC} (h : dPc a = dPc b) : a = b := by
  obtain ⟨a1, a2, a3⟩ := a
  obtain ⟨b1, b2, b3⟩ := b
  unfold dPc at h
  injection h with _ h
  injection h with h1 h
  injection h with h2 h
  injection h with h3 h
  injection h1 with _ h1
  injection h2 with _ h2
  injection h3 with _ h3
  injection h1 with h1
  injection h2 with h2
  injection h3 with h3
  have h2' : a2 = b2 := (List.map_inj_right (fun _ _ e => dSg_inj e)).mp h2
  have h3' : a3 = b3 := dStrs_inj h3
  simp only at h1
  subst h1 h2' h3'
  rfl
/-- no instance of one's own -/
def notOwn (x : DV) (C : Cs) : Prop := match kindX x C with
  | some (.own _) => False
  | some _ => True
  | none => False
open Classical in
/-- how pieces compare -/
noncomputable def ownPc : Own := fun c a b => if c = ("Piece" : Str) ∧ ∃ p, a = dPc p then (if ∃ p2, b = dPc p2 then some (decide (a = b)) else if notOwn (.of b) [] then some false else none) else none
theorem ownPc_pc (p p2 : PC) : ownPc ("Piece" : Str) (dPc p) (dPc p2) = some (decide (p = p2)) := by
  unfold ownPc
  rw [if_pos ⟨rfl, p, rfl⟩, if_pos ⟨p2, rfl⟩]
  congr 1
  rw [decide_eq_decide]
  exact ⟨dPc_inj, fun e => by rw [e]⟩
theorem ownPc_no {p : PC} {b : D} (h : notOwn (.of b) []) : ownPc ("Piece" : Str) (dPc p) b = some false := by
  unfold ownPc
  rw [if_pos ⟨rfl, p, rfl⟩, if_neg (fun ⟨p2, e⟩ => by rw [e] at h; exact h), if_pos h]
theorem ownPc_inv {c : Str} {a b : D} {r : Bool} (h : ownPc c a b = some r) : c = ("Piece" : Str) ∧ ∃ p, a = dPc p ∧ ((∃ p2, b = dPc p2 ∧ r = decide (p = p2)) ∨ (notOwn (.of b) [] ∧ r = false)) := by
  have h0 := h
  unfold ownPc at h
  split at h
  · rename_i hc
    obtain ⟨rfl, p, rfl⟩ := hc
    refine ⟨rfl, p, rfl, ?_⟩
    split at h
    · rename_i hb
      obtain ⟨p2, rfl⟩ := hb
      rw [ownPc_pc] at h0
      exact .inl ⟨p2, rfl, (Option.some.inj h0).symm⟩
    · split at h
      · rename_i hn; exact .inr ⟨hn, (Option.some.inj h).symm⟩
      · cases h
  · cases h
theorem ownPc_refl (c : Str) (a : D) (r : Bool) (h : ownPc c a a = some r) : r = true := by
  obtain ⟨_, p, rfl, h⟩ := ownPc_inv h
  rcases h with ⟨p2, e, rfl⟩ | ⟨hn, _⟩
  · exact decide_eq_true (dPc_inj e)
  · exact hn.elim
theorem eqO_pc (n : Nat) (p p2 : PC) : eqO ownPc n (dPc p) (dPc p2) = some (decide (p = p2)) := by
  cases n <;> exact ownPc_pc p p2
theorem eqO_pcno (n : Nat) {p : PC} {b : D} (h : notOwn (.of b) []) : eqO ownPc n (dPc p) b = some false := by
  have key : baseO ownPc (dPc p) b = some false := by
    show (match kindX (.of b) [] with | some (.own c') => if c' = ("Piece" : Str) then ownPc ("Piece" : Str) (dPc p) b else none | some _ => ownPc ("Piece" : Str) (dPc p) b | none => none) = _
    unfold notOwn at h
    cases hk : kindX (.of b) [] with
    | none => rw [hk] at h; exact h.elim
    | some k =>
      rw [hk] at h
      have h' : ownPc ("Piece" : Str) (dPc p) b = some false := ownPc_no (by unfold notOwn; rw [hk]; exact h)
      cases k <;> first | exact h' | exact h.elim
  cases n with
  | zero => exact key
  | succ n => exact key
theorem seqO_map {α : Type} [DecidableEq α] {E : D → D → Option Bool} {f : α → D} (h : ∀ a b, E (f a) (f b) = some (decide (a = b))) : ∀ (l m : List α), seqO E (l.map f) (m.map f) = some (decide (l = m))
  | [], [] => rfl
  | [], b :: m => rfl
  | a :: l, [] => rfl
  | a :: l, b :: m => by
    show (match E (f a) (f b) with | some true => seqO E (l.map f) (m.map f) | some false => some false | none => none) = _
    rw [h, seqO_map h l m]
    by_cases e : a = b
    · rw [decide_eq_true e]
      show some (decide (l = m)) = _
      congr 1
      rw [decide_eq_decide, List.cons.injEq]
      exact ⟨fun x => ⟨e, x⟩, fun x => x.2⟩
    · rw [decide_eq_false e]
      show some false = _
      congr 1
      exact (decide_eq_false fun x => e (List.cons.inj x).1).symm
theorem eqO_list {α : Type} [DecidableEq α] {own : Own} {n : Nat} {f : α → D} (h : ∀ a b, eqO own n (f a) (f b) = some (decide (a = b))) (l m : List α) : eqO own (n + 1) (.lst (l.map f)) (.lst (m.map f)) = some (decide (l = m)) := by
  show (if (l.map f).length = (m.map f).length then seqO (eqO own n) (l.map f) (m.map f) else some false) = _
  rw [seqO_map h]
  by_cases e : (l.map f).length = (m.map f).length
  · rw [if_pos e]
  · rw [if_neg e]
    congr 1
    exact (decide_eq_false fun x => e (by rw [x])).symm
theorem eqO_tup {α : Type} [DecidableEq α] {own : Own} {n : Nat} {f : α → D} (h : ∀ a b, eqO own n (f a) (f b) = some (decide (a = b))) (l m : List α) : eqO own (n + 1) (.tup (l.map f)) (.tup (m.map f)) = some (decide (l = m)) := seqO_map h l m
theorem nvDs_map {α : Type} {ks : List Str} {f : α → D} (h : ∀ a, nvD ks (f a) = true) : ∀ (l : List α), nvDs ks (l.map f) = true
  | [] => rfl
  | a :: l => by
    show (nvD ks (f a) && nvDs ks (l.map f)) = true
    rw [h, nvDs_map h l]; rfl
theorem nv_strs (ks : List Str) (l : List (List Nat)) : nvDs ks (dStrs l) = true := nvDs_map (fun _ => rfl) l
theorem nv_sg (ks : List Str) (s : SG) : nvD ks (dSg s) = true := by
  show (true && (true && (true && (nvDs ks (dStrs s.way) && true)))) = true
  rw [nv_strs]; rfl
theorem nv_pc {ks : List Str} (hk : ks.contains ("Piece" : Str) = true) (p : PC) : nvD ks (dPc p) = true := by
  show (ks.contains ("Piece" : Str) && (true && (nvDs ks (p.signs.map dSg) && (nvDs ks (dStrs p.paint) && true)))) = true
  rw [hk, nvDs_map (nv_sg ks), nv_strs]; rfl
theorem nv_pcs {ks : List Str} (hk : ks.contains ("Piece" : Str) = true) (l : List PC) : nvD ks (.lst (dPcs l)) = true := nvDs_map (f := dPc) (nv_pc hk) l
/-- max(1, min(N, n)) -/
def rounds (N : Int) (n : Nat) : Int := if (if (n : Int) < N then (n : Int) else N) > 1 then (if (n : Int) < N then (n : Int) else N) else 1
theorem rounds_pos (N : Int) (n : Nat) : 1 ≤ rounds N n := by
  unfold rounds
  by_cases a : (n : Int) < N
  · rw [if_pos a]
    by_cases b : (n : Int) > 1
    · rw [if_pos b]; omega
    · rw [if_neg b]; omega
  · rw [if_neg a]
    by_cases b : N > 1
    · rw [if_pos b]; omega
    · rw [if_neg b]; omega
theorem rounds_le {N : Int} {n : Nat} (h : 1 ≤ N) : rounds N n ≤ N := by
  unfold rounds
  by_cases a : (n : Int) < N
  · rw [if_pos a]
    by_cases b : (n : Int) > 1
    · rw [if_pos b]; omega
    · rw [if_neg b]; omega
  · rw [if_neg a]
    by_cases b : N > 1
    · rw [if_pos b]; omega
    · rw [if_neg b]; omega
theorem law_rounds {N : Int} {n : Nat} (h : 1 ≤ N ∧ N ≤ 1000) : -(2 ^ 62) ≤ rounds N n ∧ rounds N n < 2 ^ 62 := by
  have h1 := rounds_pos N n
  have h2 := rounds_le (N := N) (n := n) h.1
  have h3 : (1000 : Int) < 2 ^ 62 := by decide
  have h4 : -(2 ^ 62 : Int) ≤ 1 := by decide
  exact ⟨Int.le_trans h4 h1, by omega⟩
/-- a turn's number -/
theorem rngD_get {lo : Int} {n i : Nat} {d : D} (h : (rngD lo n)[i]? = some d) : i < n ∧ d = .int (lo + (i : Nat)) := by
  have hi := (List.getElem?_eq_some_iff.mp h).1
  rw [rngD_len] at hi
  rw [rngD_at hi] at h
  exact ⟨hi, (Option.some.inj h).symm⟩
end Z

set_option Elab.async false
set_option linter.all false
set_option maxRecDepth 100000
set_option maxHeartbeats 4000000
/-! ### zip of two things that are drawn from: lists, tuples, texts; enumerate of a text -/
namespace Z2
open PySem Z3
open PySem.Sem (wp)
section
variable {prog : Program} {w : World} {A : Around} {E : Value → Shared → Prop} {s : Shared}
structure Apart2 (z TO : Addr) (i1 i2 : Addr) (f1 f2 : List Addr) : Prop where
  zTO : TO ≠ z
  z1 : z ∉ f1
  z2 : z ∉ f2
  o1 : TO ∉ f1
  o2 : TO ∉ f2
  a12 : i1 ∉ f2
  a21 : i2 ∉ f1
  m1 : i1 ∈ f1
  m2 : i2 ∈ f2
theorem upd_pair {T : Addr} {a b x : Value} {k : Nat} {Q : Unit → Shared → Prop} (hT : IsPair s.heap T a b)
    (h : ∀ h', h'.get? T = some { cls := .type "tuple", data := .seq ((#[a, b] : Array Value).setIfInBounds k x) } → Heap.SameBut T s.heap h' → Q () { s with heap := h' }) :
    wpAny (model prog w) A (updateSeq T (·.setIfInBounds k x)) Q E s := by
  refine wpAny_updateSeq hT rfl (h _ ?_ (Heap.SameBut.update ..))
  rw [Heap.get?_update_self _ hT rfl]
  simp [Obj.mapSeq]
theorem zip2_item {z TI TO i1 i2 : Addr} {f1 f2 : List Addr} {n1 n2 k : Nat} {P1 P2 : Nat → Value → Prop} {S1 S2 : Nat → Heap → Prop} {a b : Value} {Q : Value → Shared → Prop}
    (D1 : Draws prog w A i1 f1 n1 P1 S1) (D2 : Draws prog w A i2 f2 n2 P2 S2) (ap : Apart2 z TO i1 i2 f1 f2)
    (hz : IsZip s.heap z TI TO .none) (hTI : IsPair s.heap TI (.ref i1) (.ref i2)) (hTO : IsPair s.heap TO a b) (h1 : S1 k s.heap) (h2 : S2 k s.heap) (l1 : k < n1) (l2 : k < n2)
    (hQ : ∀ x y h' tk, P1 k x → P2 k y → IsZip h' z TI TO (rawInt s.heap.objs.size) → IsPair h' TO x y → S1 (k + 1) h' → S2 (k + 1) h' → IsPair h' s.heap.objs.size x y → h'.objs.size = s.heap.objs.size + 1 →
      (∀ d o, d ≠ z → d ≠ TO → d ≠ i1 → d ≠ i2 → s.heap.get? d = some o → h'.get? d = some o) → Q (.ref s.heap.objs.size) { s with heap := h', toks := tk }) :
    wpAny (model prog w) A (Builtin.«zip.__next__» ⟨[.ref z], []⟩) (fun fin s' => ∃ v, fin = .done (.ret v) ∧ Q v s') E s := by
  show wpAny _ _ (field (.ref z) 2 >>= _) _ _ _
  refine wpAny_bind (wpAny_field hz rfl (x := .bool false) rfl ?_)
  show wpAny _ _ (field (.ref z) 3 >>= _) _ _ _
  refine wpAny_bind (wpAny_field hz rfl (x := .ref TI) rfl ?_)
  refine wpAny_bind (wpAny_seqItems hTI rfl ?_)
  show wpAny _ _ (Builtin.SmallTypes.ownedTupleIsFree (.ref z) >>= _) _ _ _
  refine wpAny_bind ?_
  unfold Builtin.SmallTypes.ownedTupleIsFree
  refine wpAny_bind (wpAny_field hz rfl (x := .none) rfl (wpAny_pure ?_))
  simp only [if_true]
  refine wpAny_bind (wpAny_rule ?_)
  refine wpAny_bind (wpAny_field hz rfl (x := .ref TO) rfl ?_)
  refine wpAny_bind (wpAny_setField_rec hz (by simp) fun h₁ hz₁ hs₁ => ?_)
  replace hz₁ : IsZip h₁ z TI TO .ellipsis := hz₁
  refine wpAny_bind ?_
  simp only [List.zipIdx_cons, List.zipIdx_nil, List.forIn_cons, List.forIn_nil]
  have keep : ∀ {y : Addr} {h h' : Heap} {f : List Addr}, Heap.SameBut y h h' → y ∉ f → ∀ b ∈ f, ∀ o, h.get? b = some o → h'.get? b = some o := fun sb hy b hb o e => (sb.2 b fun q => hy (q ▸ hb)).trans e
  have s11 : S1 k h₁ := D1.frame _ _ _ h1 (keep hs₁ ap.z1)
  have s21 : S2 k h₁ := D2.frame _ _ _ h2 (keep hs₁ ap.z2)
  have o1 : TO ≠ i1 := fun e => ap.o1 (e ▸ ap.m1)
  have o2 : TO ≠ i2 := fun e => ap.o2 (e ▸ ap.m2)
  have e1 : z ≠ i1 := fun e => ap.z1 (e ▸ ap.m1)
  have e2 : z ≠ i2 := fun e => ap.z2 (e ▸ ap.m2)
  refine wpAny_bind (wpAny_bind (wpAny_onRaise ?_))
  show wpAny _ _ (Builtin.SmallTypes.nextOf (.ref i1) >>= _) _ _ _
  refine wpAny_bind (step_draw D1 h₁ s.toks rfl l1 s11 fun x h₂ t₂ p1 s12 hs₂ => wpAny_pure ?_)
  have hTO₂ : IsPair h₂ TO a b := (hs₂.2 _ o1).trans ((hs₁.2 _ ap.zTO).trans hTO)
  refine wpAny_bind (wpAny_seqItems hTO₂ rfl ?_)
  refine wpAny_bind (upd_pair hTO₂ fun h₃ hTO₃ hs₃ => ?_)
  replace hTO₃ : IsPair h₃ TO x b := hTO₃
  refine wpAny_bind (wpAny_letGo (wpAny_pure ?_))
  have s13 : S1 (k + 1) h₃ := D1.frame _ _ _ s12 (keep hs₃ ap.o1)
  have s23 : S2 k h₃ := D2.frame _ _ _ (D2.frame _ _ _ s21 (keep hs₂ ap.a12)) (keep hs₃ ap.o2)
  refine wpAny_bind (wpAny_bind (wpAny_onRaise ?_))
  show wpAny _ _ (Builtin.SmallTypes.nextOf (.ref i2) >>= _) _ _ _
  refine wpAny_bind (step_draw D2 h₃ t₂ rfl l2 s23 fun y h₄ t₄ p2 s24 hs₄ => wpAny_pure ?_)
  have hTO₄ : IsPair h₄ TO x b := (hs₄.2 _ o2).trans hTO₃
  refine wpAny_bind (wpAny_seqItems hTO₄ rfl ?_)
  refine wpAny_bind (upd_pair hTO₄ fun h₅ hTO₅ hs₅ => ?_)
  replace hTO₅ : IsPair h₅ TO x y := hTO₅
  refine wpAny_bind (wpAny_letGo (wpAny_pure (wpAny_pure ?_)))
  have s15 : S1 (k + 1) h₅ := D1.frame _ _ _ (D1.frame _ _ _ s13 (keep hs₄ ap.a21)) (keep hs₅ ap.o1)
  have s25 : S2 (k + 1) h₅ := D2.frame _ _ _ s24 (keep hs₅ ap.o2)
  refine wpAny_bind (wpAny_seqItems hTO₅ rfl ?_)
  refine wpAny_bind (wpAny_newTuple ?_)
  have hsz : h₅.objs.size = s.heap.objs.size := by rw [hs₅.1, hs₄.1, hs₃.1, hs₂.1, hs₁.1]
  have hz₅ : IsZip h₅ z TI TO .ellipsis := (hs₅.2 _ ap.zTO.symm).trans ((hs₄.2 _ e2).trans ((hs₃.2 _ ap.zTO.symm).trans ((hs₂.2 _ e1).trans hz₁)))
  have hk₅ : ∀ d o, d ≠ z → d ≠ TO → d ≠ i1 → d ≠ i2 → s.heap.get? d = some o → h₅.get? d = some o := fun d o c1 c2 c3 c4 e =>
    (hs₅.2 _ c2).trans ((hs₄.2 _ c4).trans ((hs₃.2 _ c2).trans ((hs₂.2 _ c3).trans ((hs₁.2 _ c1).trans e))))
  have hzlt : z < h₅.objs.size := Heap.lt_size hz₅
  show wpAny _ _ (Builtin.SmallTypes.ownedTupleHandOut (.ref z) (.ref h₅.objs.size) >>= _) _ _ _
  refine wpAny_bind ?_
  unfold Builtin.SmallTypes.ownedTupleHandOut
  have hz₆ : IsZip (h₅.push { cls := .type "tuple", data := .seq #[x, y] }) z TI TO .ellipsis := Heap.get?_push_of_some _ hz₅
  refine wpAny_bind (wpAny_setField_rec hz₆ (by simp) fun h₇ hz₇ hs₇ => ?_)
  replace hz₇ : IsZip h₇ z TI TO (rawInt h₅.objs.size) := hz₇
  refine wpAny_setField_rec hz₇ (by simp) fun h₈ hz₈ hs₈ => ?_
  replace hz₈ : IsZip h₈ z TI TO (rawInt h₅.objs.size) := hz₈
  have up : ∀ d o, d ≠ z → h₅.get? d = some o → h₈.get? d = some o := fun d o c1 e => (hs₈.2 _ c1).trans ((hs₇.2 _ c1).trans (Heap.get?_push_of_some _ e))
  have hT : IsPair h₈ h₅.objs.size x y := (hs₈.2 _ (Nat.ne_of_gt hzlt)).trans ((hs₇.2 _ (Nat.ne_of_gt hzlt)).trans (Heap.get?_push_size _ rfl))
  have hz0 : h₈.objs.size = h₅.objs.size + 1 := by rw [hs₈.1, hs₇.1, Heap.size_push]
  rw [hsz] at hz₈ hT hz0
  have fr : ∀ {f : List Addr}, z ∉ f → ∀ b ∈ f, ∀ o, h₅.get? b = some o → h₈.get? b = some o := fun hzf b hb o e => up b o (fun q => hzf (q ▸ hb)) e
  refine wpAny_pure ⟨_, rfl, ?_⟩
  rw [hsz]
  exact hQ x y h₈ t₄ p1 p2 hz₈ (up _ _ ap.zTO hTO₅) (D1.frame _ _ _ s15 (fr ap.z1)) (D2.frame _ _ _ s25 (fr ap.z2)) hT hz0 fun d o c1 c2 c3 c4 e => up d o c1 (hk₅ d o c1 c2 c3 c4 e)
theorem zip2_end {z TI TO i1 i2 : Addr} {f1 f2 : List Addr} {n1 n2 k : Nat} {P1 P2 : Nat → Value → Prop} {S1 S2 : Nat → Heap → Prop} {a b : Value} {Q : Fin → Shared → Prop}
    (D1 : Draws prog w A i1 f1 n1 P1 S1) (D2 : Draws prog w A i2 f2 n2 P2 S2) (ap : Apart2 z TO i1 i2 f1 f2)
    (hz : IsZip s.heap z TI TO .none) (hTI : IsPair s.heap TI (.ref i1) (.ref i2)) (hTO : IsPair s.heap TO a b) (h1 : S1 k s.heap) (h2 : S2 k s.heap) (hend : k = n1 ∨ (k < n1 ∧ k = n2))
    (hE : ∀ h' e tk, (∀ d o, d ≠ z → d ≠ TO → d ≠ i1 → d ≠ i2 → s.heap.get? d = some o → h'.get? d = some o) → (∃ o, h'.get? e = some o ∧ o.cls = .type "StopIteration") → E (.ref e) { s with heap := h', toks := tk }) :
    wpAny (model prog w) A (Builtin.«zip.__next__» ⟨[.ref z], []⟩) Q E s := by
  show wpAny _ _ (field (.ref z) 2 >>= _) _ _ _
  refine wpAny_bind (wpAny_field hz rfl (x := .bool false) rfl ?_)
  show wpAny _ _ (field (.ref z) 3 >>= _) _ _ _
  refine wpAny_bind (wpAny_field hz rfl (x := .ref TI) rfl ?_)
  refine wpAny_bind (wpAny_seqItems hTI rfl ?_)
  show wpAny _ _ (Builtin.SmallTypes.ownedTupleIsFree (.ref z) >>= _) _ _ _
  refine wpAny_bind ?_
  unfold Builtin.SmallTypes.ownedTupleIsFree
  refine wpAny_bind (wpAny_field hz rfl (x := .none) rfl (wpAny_pure ?_))
  simp only [if_true]
  refine wpAny_bind (wpAny_rule ?_)
  refine wpAny_bind (wpAny_field hz rfl (x := .ref TO) rfl ?_)
  refine wpAny_bind (wpAny_setField_rec hz (by simp) fun h₁ hz₁ hs₁ => ?_)
  replace hz₁ : IsZip h₁ z TI TO .ellipsis := hz₁
  refine wpAny_bind ?_
  simp only [List.zipIdx_cons, List.zipIdx_nil, List.forIn_cons, List.forIn_nil]
  have keep : ∀ {y : Addr} {h h' : Heap} {f : List Addr}, Heap.SameBut y h h' → y ∉ f → ∀ b ∈ f, ∀ o, h.get? b = some o → h'.get? b = some o := fun sb hy b hb o e => (sb.2 b fun q => hy (q ▸ hb)).trans e
  have s11 : S1 k h₁ := D1.frame _ _ _ h1 (keep hs₁ ap.z1)
  have s21 : S2 k h₁ := D2.frame _ _ _ h2 (keep hs₁ ap.z2)
  have o1 : TO ≠ i1 := fun e => ap.o1 (e ▸ ap.m1)
  have o2 : TO ≠ i2 := fun e => ap.o2 (e ▸ ap.m2)
  have e1 : z ≠ i1 := fun e => ap.z1 (e ▸ ap.m1)
  have e2 : z ≠ i2 := fun e => ap.z2 (e ▸ ap.m2)
  refine wpAny_bind (wpAny_bind (wpAny_onRaise ?_))
  show wpAny _ _ (Builtin.SmallTypes.nextOf (.ref i1) >>= _) _ _ _
  by_cases c1 : k = n1
  · subst c1
    refine wpAny_bind (step_end D1 h₁ s.toks rfl rfl s11 fun h₂ e hs₂ he => ?_)
    obtain ⟨oe, hoe, hce⟩ := he
    have hz₂ : IsZip h₂ z TI TO .ellipsis := hs₂ _ _ e1 hz₁
    have hez : e ≠ z := fun x => by subst x; rw [hz₂] at hoe; cases hoe; simp at hce
    refine wpAny_setField_rec hz₂ (by simp) fun h₃ _ hs₃ => hE h₃ e _ (fun d o d1 _ d3 _ x => hs₃.extBut _ _ d1 (hs₂ _ _ d3 (hs₁.extBut _ _ d1 x))) ⟨oe, hs₃.extBut _ _ hez hoe, hce⟩
  have l1 : k < n1 := by omega
  have hk2 : k = n2 := by omega
  refine wpAny_bind (step_draw D1 h₁ s.toks rfl l1 s11 fun x h₂ t₂ p1 s12 hs₂ => wpAny_pure ?_)
  have hTO₂ : IsPair h₂ TO a b := (hs₂.2 _ o1).trans ((hs₁.2 _ ap.zTO).trans hTO)
  refine wpAny_bind (wpAny_seqItems hTO₂ rfl ?_)
  refine wpAny_bind (upd_pair hTO₂ fun h₃ hTO₃ hs₃ => ?_)
  refine wpAny_bind (wpAny_letGo (wpAny_pure ?_))
  have s23 : S2 k h₃ := D2.frame _ _ _ (D2.frame _ _ _ s21 (keep hs₂ ap.a12)) (keep hs₃ ap.o2)
  have hz₃ : IsZip h₃ z TI TO .ellipsis := (hs₃.2 _ ap.zTO.symm).trans ((hs₂.2 _ e1).trans hz₁)
  refine wpAny_bind (wpAny_bind (wpAny_onRaise ?_))
  show wpAny _ _ (Builtin.SmallTypes.nextOf (.ref i2) >>= _) _ _ _
  subst hk2
  refine wpAny_bind (step_end D2 h₃ t₂ rfl rfl s23 fun h₄ e hs₄ he => ?_)
  obtain ⟨oe, hoe, hce⟩ := he
  have hz₄ : IsZip h₄ z TI TO .ellipsis := hs₄ _ _ e2 hz₃
  have hez : e ≠ z := fun x => by subst x; rw [hz₄] at hoe; cases hoe; simp at hce
  exact wpAny_setField_rec hz₄ (by simp) fun h₅ _ hs₅ => hE h₅ e _ (fun d o d1 d2 d3 d4 x => hs₅.extBut _ _ d1 (hs₄ _ _ d4 (hs₃.extBut _ _ d2 (hs₂.extBut _ _ d3 (hs₁.extBut _ _ d1 x))))) ⟨oe, hs₅.extBut _ _ hez hoe, hce⟩
theorem pyNext2_item {z TI TO i1 i2 : Addr} {f1 f2 : List Addr} {n1 n2 k : Nat} {P1 P2 : Nat → Value → Prop} {S1 S2 : Nat → Heap → Prop} {a b : Value} {Q : Option Value → Shared → Prop}
    (D1 : Draws prog w A.in1 i1 f1 n1 P1 S1) (D2 : Draws prog w A.in1 i2 f2 n2 P2 S2) (ap : Apart2 z TO i1 i2 f1 f2)
    (hz : IsZip s.heap z TI TO .none) (hTI : IsPair s.heap TI (.ref i1) (.ref i2)) (hTO : IsPair s.heap TO a b) (h1 : S1 k s.heap) (h2 : S2 k s.heap) (l1 : k < n1) (l2 : k < n2)
    (hQ : ∀ x y h' tk, P1 k x → P2 k y → IsZip h' z TI TO (rawInt s.heap.objs.size) → IsPair h' TO x y → S1 (k + 1) h' → S2 (k + 1) h' → IsPair h' s.heap.objs.size x y → h'.objs.size = s.heap.objs.size + 1 →
      (∀ d o, d ≠ z → d ≠ TO → d ≠ i1 → d ≠ i2 → s.heap.get? d = some o → h'.get? d = some o) → Q (some (.ref s.heap.objs.size)) { s with heap := h', toks := tk }) :
    wpAny (model prog w) A (pyNext (.ref z)) Q E s := by
  have hT : s.TypeIs (.ref z) "zip" := ⟨_, hz, rfl⟩
  unfold pyNext
  exact wpAny_bind (wpAny_attempt (wpAny_callSpecial?_slot (name := Str.ofString "__next__") hT F.slot_zip_next
    (wpAny_call_entry F.slot_zip_next hT F.entry_zip_next
      (zip2_item D1 D2 ap hz hTI hTO h1 h2 l1 l2 fun x y h' tk a1 a2 a3 a4 a5 a6 a7 a8 a9 => wpAny_pure (hQ x y h' tk a1 a2 a3 a4 a5 a6 a7 a8 a9)) (F.args_zip_next_1 _))))
theorem pyNext2_end {z TI TO i1 i2 : Addr} {f1 f2 : List Addr} {n1 n2 k : Nat} {P1 P2 : Nat → Value → Prop} {S1 S2 : Nat → Heap → Prop} {a b : Value} {Q : Option Value → Shared → Prop}
    (D1 : Draws prog w A.in1 i1 f1 n1 P1 S1) (D2 : Draws prog w A.in1 i2 f2 n2 P2 S2) (ap : Apart2 z TO i1 i2 f1 f2)
    (hz : IsZip s.heap z TI TO .none) (hTI : IsPair s.heap TI (.ref i1) (.ref i2)) (hTO : IsPair s.heap TO a b) (h1 : S1 k s.heap) (h2 : S2 k s.heap) (hend : k = n1 ∨ (k < n1 ∧ k = n2))
    (hQ : ∀ h' tk, (∀ d o, d ≠ z → d ≠ TO → d ≠ i1 → d ≠ i2 → s.heap.get? d = some o → h'.get? d = some o) → Q none { s with heap := h', toks := tk }) : wpAny (model prog w) A (pyNext (.ref z)) Q E s := by
  have hT : s.TypeIs (.ref z) "zip" := ⟨_, hz, rfl⟩
  unfold pyNext
  refine wpAny_bind (wpAny_attempt (wpAny_callSpecial?_slot (name := Str.ofString "__next__") hT F.slot_zip_next
    (wpAny_call_entry F.slot_zip_next hT F.entry_zip_next (zip2_end D1 D2 ap hz hTI hTO h1 h2 hend fun h' e tk hk he => ?_) (F.args_zip_next_1 _))))
  obtain ⟨o, ho, hc⟩ := he
  refine wpAny_bind (wpAny_isInstance (T := "StopIteration") (b := true) ⟨o, ho, hc⟩ isSubtype_stop ?_)
  exact wpAny_pure (hQ _ _ hk)
end
/-- a list, a tuple or a text -/
inductive Sc where
  | l (a : Addr) | t (a : Addr) | s (x : Str) (u : Tok)
def Sc.v : Sc → Value
  | .l a => .ref a
  | .t a => .ref a
  | .s x u => .str x u
def Sc.it : Sc → Obj
  | .l a => { cls := .type "list_iterator", data := .fields #[.ref a, .int 0 0] }
  | .t a => { cls := .type "tuple_iterator", data := .fields #[.ref a, .int 0 0] }
  | .s x u => { cls := .type (strIterType x), data := .fields #[.str x u, .int 0 0] }
def Sc.Is (h : Heap) (items : Array Value) : Sc → Prop
  | .l a => h.IsList a items
  | .t a => h.IsTuple a items
  | .s _ _ => True
def Sc.fp (it : Addr) : Sc → List Addr
  | .l a => [it, a]
  | .t a => [it, a]
  | .s _ _ => [it]
def Sc.St (h : Heap) (it : Addr) (i : Nat) : Sc → Prop
  | .l a => h.IsListIter it a i
  | .t a => h.IsTupleIter it a i
  | .s x u => h.IsStrIter it (strIterType x) x u i
/-- where a list or a tuple stands -/
def Sc.at? : Sc → Option Addr
  | .l a => some a
  | .t a => some a
  | .s _ _ => none
theorem tup_push {h : Heap} {a : Addr} {items : Array Value} (p : h.IsTuple a items) (o : Obj) : (h.push o).IsTuple a items := by
  obtain ⟨u, e, r⟩ := p
  exact ⟨u, Heap.get?_push_of_some _ e, r⟩
theorem Sc.Is.push {h : Heap} {items : Array Value} {x : Sc} (p : x.Is h items) (o : Obj) : x.Is (h.push o) items := by
  cases x with
  | l a => exact Heap.IsList.push p o
  | t a => exact tup_push p o
  | s x u => trivial
theorem Sc.Is.lt {h : Heap} {items : Array Value} {x : Sc} (p : x.Is h items) : ∀ a, x.at? = some a → a < h.objs.size := fun a e => by
  cases x with
  | l b => cases e; obtain ⟨u, e, r⟩ := p; exact Heap.lt_size e
  | t b => cases e; obtain ⟨u, e, r⟩ := p; exact Heap.lt_size e
  | s x u => cases e
theorem Sc.it_free (x : Sc) : x.it.isFreed = false := by cases x <;> rfl
theorem Sc.fp_mem {x : Sc} {it b : Addr} : b ∈ x.fp it ↔ b = it ∨ x.at? = some b := by
  cases x with
  | l a => simp [Sc.fp, Sc.at?, eq_comm]
  | t a => simp [Sc.fp, Sc.at?, eq_comm]
  | s x u => simp [Sc.fp, Sc.at?]
section
variable {prog : Program} {w : World} {A : Around} {E : Value → Shared → Prop} {s : Shared}
theorem wpAny_pyIter_sc {x : Sc} {items : Array Value} {Q : Value → Shared → Prop} (hx : x.Is s.heap items) (hQ : Q (.ref s.heap.objs.size) { s with heap := s.heap.push x.it }) : wpAny (model prog w) A (pyIter x.v) Q E s := by
  cases x with
  | l a => exact wpAny_pyIter_list hx hQ
  | t a => exact wpAny_pyIter_tuple hx hQ
  | s x u => exact wpAny_pyIter_strU hQ
end
theorem Sc.St.at {h h' : Heap} {it : Addr} {i : Nat} {x : Sc} (p : x.St h it i) (k : ∀ o, h.get? it = some o → h'.get? it = some o) : x.St h' it i := by
  cases x with
  | l a => exact Heap.IsListIter.at p k
  | t a => exact Heap.IsTupleIter.at p k
  | s x u => obtain ⟨o, e, r⟩ := p; exact ⟨o, k o e, r⟩
theorem Sc.St.new {h : Heap} {it : Addr} {x : Sc} (g : h.get? it = some x.it) : x.St h it 0 := by
  cases x with
  | l a => exact ⟨_, g, rfl, rfl⟩
  | t a => exact ⟨_, g, rfl, rfl⟩
  | s x u => exact ⟨_, g, rfl, rfl⟩
theorem Sc.St.obj {h : Heap} {it : Addr} {i : Nat} {x : Sc} (p : x.St h it i) : ∃ o, h.get? it = some o ∧ ∀ v, o.data ≠ .cell v := by
  cases x with
  | l a => obtain ⟨o, e, _, d⟩ := p; exact ⟨o, e, fun v q => by rw [d] at q; cases q⟩
  | t a => obtain ⟨o, e, _, d⟩ := p; exact ⟨o, e, fun v q => by rw [d] at q; cases q⟩
  | s x u => obtain ⟨o, e, _, d⟩ := p; exact ⟨o, e, fun v q => by rw [d] at q; cases q⟩
abbrev T1 (h : Heap) (x : Sc) : Heap := h.push x.it
abbrev T2 (h : Heap) (x y : Sc) : Heap := (T1 h x).push y.it
abbrev T4 (h : Heap) (x y : Sc) : Heap := (T2 h x y).push { cls := .type "tuple", data := .seq #[.ref h.objs.size, .ref (T1 h x).objs.size] }
abbrev T5 (h : Heap) (x y : Sc) : Heap := (T4 h x y).push { cls := .type "tuple", data := .seq #[.none, .none] }
abbrev T6 (h : Heap) (x y : Sc) : Heap := (T5 h x y).push { cls := .type "zip", data := .fields #[.none, .bool false, .bool false, .ref (T2 h x y).objs.size, .ref (T4 h x y).objs.size] }
theorem meets_z2 (x y : Sc) (xs ys : Array Value) :
    Meets (Builtin.«zip.__new__» ⟨[.type "zip", x.v, y.v], []⟩) (fun _ R s => x.Is s.heap xs ∧ y.Is s.heap ys ∧ R (.ok (.ret (.ref (T5 s.heap x y).objs.size))) { s with heap := T6 s.heap x y }) :=
  .of_wp fun prog w A R s h => by
    obtain ⟨hp, g, d, tk, os⟩ := s; obtain ⟨hl1, hl2, h⟩ := h
    have hsub := sub_zip
    have hL1 : x.Is (Shared.heap ⟨hp, g, d, tk, os⟩) xs := hl1
    have hL2 : y.Is (Shared.heap ⟨T1 hp x, g, d, tk, os⟩) ys := hl2.push _
    wp_walk using wpAny_pyIter_sc hL1, wpAny_pyIter_sc hL2
    exact ⟨_, rfl, h⟩
section
variable {prog : Program} {w : World} {A : Around} {E : Value → Shared → Prop} {s : Shared}
theorem call_z2 {x y : Sc} {xs ys : Array Value} {Q : Value → Shared → Prop} (hx : x.Is s.heap xs) (hy : y.Is s.heap ys)
    (h : ∀ h', IsZip h' (s.heap.objs.size + 4) (s.heap.objs.size + 2) (s.heap.objs.size + 3) .none → IsPair h' (s.heap.objs.size + 2) (.ref s.heap.objs.size) (.ref (s.heap.objs.size + 1)) →
      IsPair h' (s.heap.objs.size + 3) .none .none → x.St h' s.heap.objs.size 0 → y.St h' (s.heap.objs.size + 1) 0 → h'.objs.size = s.heap.objs.size + 5 →
      (∀ c o, s.heap.get? c = some o → h'.get? c = some o) → Q (.ref (s.heap.objs.size + 4)) { s with heap := h' }) :
    wpAny (model prog w) A (call (.type "zip") [x.v, y.v]) Q E s := by
  refine callType_new F.called_zip (by decide) (F.typeCall_zip_2 _ _) (F.newCall_zip_2 _ _) (fun obj => F.args_object_init_3 obj _ _) F.entry_zip_new
    (meets_z2 x y xs ys) ⟨hx, hy, ?_⟩
  have z1 : (T1 s.heap x).objs.size = s.heap.objs.size + 1 := Heap.size_push ..
  have z2 : (T2 s.heap x y).objs.size = s.heap.objs.size + 2 := by rw [Heap.size_push, z1]
  have z4 : (T4 s.heap x y).objs.size = s.heap.objs.size + 3 := by rw [Heap.size_push, z2]
  have z5 : (T5 s.heap x y).objs.size = s.heap.objs.size + 4 := by rw [Heap.size_push, z4]
  have z6 : (T6 s.heap x y).objs.size = s.heap.objs.size + 5 := by rw [Heap.size_push, z5]
  have g6 : (T6 s.heap x y).get? (T5 s.heap x y).objs.size = some _ := Heap.get?_push_size _ rfl
  have g5 : (T6 s.heap x y).get? (T4 s.heap x y).objs.size = some _ := Heap.get?_push_of_some _ (Heap.get?_push_size _ rfl)
  have g4 : (T6 s.heap x y).get? (T2 s.heap x y).objs.size = some _ := Heap.get?_push_of_some _ (Heap.get?_push_of_some _ (Heap.get?_push_size _ rfl))
  have g2 : (T6 s.heap x y).get? (T1 s.heap x).objs.size = some y.it := Heap.get?_push_of_some _ (Heap.get?_push_of_some _ (Heap.get?_push_of_some _ (Heap.get?_push_size _ y.it_free)))
  have g1 : (T6 s.heap x y).get? s.heap.objs.size = some x.it := Heap.get?_push_of_some _ (Heap.get?_push_of_some _ (Heap.get?_push_of_some _ (Heap.get?_push_of_some _ (Heap.get?_push_size _ x.it_free))))
  show _ ∧ _
  rw [z2, z4, z5] at g6
  rw [z1, z2] at g4
  rw [z4] at g5
  rw [z1] at g2
  rw [z5]
  exact ⟨⟨_, g6, rfl⟩, h _ g6 g4 g5 (.new g1) (.new g2) z6 fun c o e =>
    Heap.get?_push_of_some _ (Heap.get?_push_of_some _ (Heap.get?_push_of_some _ (Heap.get?_push_of_some _ (Heap.get?_push_of_some _ e))))⟩
end
end Z2
namespace Z
open PySem PySem.Spec PyProof.Rows L2 Z2
def ScV (K : PySem.W.Frag) (H : Hp) (x : Sc) (xs : List V) : Prop := match x with
  | .l a => SqL K H a xs
  | .t a => SqT K H a xs
  | .s x _ => xs = x.cps.toList.map fun c => V.str ⟨#[c]⟩
/-- what stands there, and how it is drawn -/
theorem ScV.get {X : Cx} {pins : List (Addr × Obj)} {σ : L2.St} {H : Hp} {s : Shared} {x : Sc} {xs : List V} (I : Inv X pins σ H s) (h : ScV X.K H x xs) :
    ∃ its : List Value, x.Is s.heap its.toArray ∧ (∀ a, x.at? = some a → ∃ o, s.heap.get? a = some o ∧ (o.cls = .type "list" ∨ o.cls = .type "tuple")) ∧ ∀ (A : Around) (it : Addr), A.handled = none → (∀ a, x.at? = some a → a ≠ it) →
      Draws X.prog X.w A it (x.fp it) xs.length (fun i v => ∃ y, xs[i]? = some y ∧ RelV y v) (fun i h => x.St h it i ∧ x.Is h its.toArray) := by
  cases x with
  | l a =>
    obtain ⟨its, rv, p, _⟩ := I.list h
    have p2 := p.isList
    refine ⟨its, p2, fun b e => by cases e; obtain ⟨o, e, c, _⟩ := p2; exact ⟨o, e, .inl c⟩, fun A it hh hne => ?_⟩
    have q := Draws.list (prog := X.prog) (w := X.w) (A := A) hh it a (hne a rfl) its.toArray
    refine ⟨q.live, q.frame, fun i s Q E hi st hQ => q.item i s Q E (by rw [List.size_toArray, ← rv.length]; exact hi) st fun v h' tk hv => hQ v h' tk ?_, fun s Q E st => q.done s Q E (by rw [List.size_toArray, ← rv.length]; exact st)⟩
    obtain ⟨u, hu, ru⟩ := rv.get (List.getElem?_eq_getElem hi)
    have hv' : its[i]? = some v := by simpa using hv
    rw [hu] at hv'
    cases hv'
    exact ⟨_, List.getElem?_eq_getElem hi, ru⟩
  | t a =>
    obtain ⟨its, rv, p, _⟩ := I.tuple h
    have p2 : s.heap.IsTuple a its.toArray := p
    refine ⟨its, p2, fun b e => by cases e; obtain ⟨o, e, c, _⟩ := p2; exact ⟨o, e, .inr c⟩, fun A it hh hne => ?_⟩
    have q := draws_tup (prog := X.prog) (w := X.w) (A := A) (it := it) (items := its) hh (hne a rfl)
    refine ⟨q.live, q.frame, fun i s Q E hi st hQ => q.item i s Q E (by rw [← rv.length]; exact hi) st fun v h' tk hv => hQ v h' tk ?_, fun s Q E st => q.done s Q E (by rw [← rv.length]; exact st)⟩
    obtain ⟨u, hu, ru⟩ := rv.get (List.getElem?_eq_getElem hi)
    rw [hu] at hv
    cases hv
    exact ⟨_, List.getElem?_eq_getElem hi, ru⟩
  | s x u =>
    have hx : xs = x.cps.toList.map fun c => V.str ⟨#[c]⟩ := h
    subst hx
    refine ⟨[], trivial, fun b e => (by cases e), fun A it hh hne => ?_⟩
    have key : Draws X.prog X.w A it [it] x.cps.size (fun i v => ∃ c u, x.cps[i]? = some c ∧ v = .str ⟨#[c]⟩ u) (fun i h => h.IsStrIter it (strIterType x) x u i) := by
      cases ha : x.cps.all (· < 128) with
      | false =>
        have e : strIterType x = "str_iterator" := by simp [strIterType, ha]
        rw [e]; exact Draws.strWide hh it x u
      | true =>
        have e : strIterType x = "str_ascii_iterator" := by simp [strIterType, ha]
        rw [e]; exact Draws.strAscii hh it x u
    have hl : (x.cps.toList.map fun c => V.str ⟨#[c]⟩).length = x.cps.size := by rw [List.length_map, Array.length_toList]
    rw [hl]
    refine ⟨fun i h st => key.live i h st.1, fun i h h' st k => ⟨key.frame i h h' st.1 k, trivial⟩, fun i s Q E hi st hQ => key.item i s Q E hi st.1 fun v h' tk hv st' => hQ v h' tk ?_ ⟨st', trivial⟩, fun s Q E st => key.done s Q E st.1⟩
    obtain ⟨c, u', hc, rfl⟩ := hv
    refine ⟨.str ⟨#[c]⟩, ?_, ⟨u', rfl⟩⟩
    rw [List.getElem?_map, Array.getElem?_toList, hc]; rfl
theorem ScV.inj {X : Cx} {pins : List (Addr × Obj)} {σ : L2.St} {H : Hp} {s : Shared} {x : Sc} {xs ys : List V} (I : Inv X pins σ H s) (h : ScV X.K H x xs) (h' : ScV X.K H x ys) : xs = ys := by
  cases x with
  | l a => exact I.list_inj h h'
  | t a => exact I.tuple_inj h h'
  | s x u => exact Eq.trans h (Eq.symm h')
def ItZ2 (K : PySem.W.Frag) (x y : Sc) : It :=
  ⟨fun i H => ∃ (xs ys : List V) (a b : V), ScV K H x xs ∧ ScV K H y ys ∧ xs[i]? = some a ∧ ys[i]? = some b,
    fun i H v H' => ∃ T a b, v = .ref T ∧ H T = none ∧ H' = upd H T (.tup [a, b]) ∧ (∀ xs, ScV K H x xs → xs[i]? = some a) ∧ (∀ ys, ScV K H y ys → ys[i]? = some b),
    fun i H => ∃ xs ys : List V, ScV K H x xs ∧ ScV K H y ys ∧ i ≤ xs.length ∧ i ≤ ys.length ∧ (xs.length = i ∨ ys.length = i)⟩
structure Ap2 (z TI TO i1 i2 : Addr) : Prop where
  a1 : z ≠ TI
  a2 : z ≠ TO
  a3 : z ≠ i1
  a4 : z ≠ i2
  b2 : TI ≠ TO
  b3 : TI ≠ i1
  b4 : TI ≠ i2
  c3 : TO ≠ i1
  c4 : TO ≠ i2
  d1 : i1 ≠ i2
structure Off2 (x : Sc) (z TI TO i1 i2 : Addr) : Prop where
  z : ∀ a, x.at? = some a → a ≠ z
  to : ∀ a, x.at? = some a → a ≠ TO
  i1 : ∀ a, x.at? = some a → a ≠ i1
  i2 : ∀ a, x.at? = some a → a ≠ i2
theorem ap2_of {x y : Sc} {z TI TO i1 i2 : Addr} (p : Ap2 z TI TO i1 i2) (ox : Off2 x z TI TO i1 i2) (oy : Off2 y z TI TO i1 i2) : Apart2 z TO i1 i2 (x.fp i1) (y.fp i2) :=
  ⟨p.a2.symm, fun h => by rcases Sc.fp_mem.mp h with e | e; exact p.a3 e; exact ox.z _ e rfl, fun h => by rcases Sc.fp_mem.mp h with e | e; exact p.a4 e; exact oy.z _ e rfl,
    fun h => by rcases Sc.fp_mem.mp h with e | e; exact p.c3 e; exact ox.to _ e rfl, fun h => by rcases Sc.fp_mem.mp h with e | e; exact p.c4 e; exact oy.to _ e rfl,
    fun h => by rcases Sc.fp_mem.mp h with e | e; exact p.d1 e; exact oy.i1 _ e rfl, fun h => by rcases Sc.fp_mem.mp h with e | e; exact p.d1.symm e; exact ox.i2 _ e rfl,
    Sc.fp_mem.mpr (.inl rfl), Sc.fp_mem.mpr (.inl rfl)⟩
theorem turn_z2 {P : Program} {w : World} {K : PySem.W.Frag} {elts : List Expr} {kk : Nat} {tpos : Pos} {x y : Sc} {z TI TO i1 i2 : Addr} (D : Ap2 z TI TO i1 i2) (ox : Off2 x z TI TO i1 i2) (oy : Off2 y z TI TO i1 i2) :
    Turn P w K (.Tuple elts kk tpos) (ItZ2 K x y) [z, TI, TO, i1, i2] z (fun i h => IsZip h z TI TO .none ∧ IsPair h TI (.ref i1) (.ref i2) ∧ (∃ a b, IsPair h TO a b) ∧ x.St h i1 i ∧ y.St h i2 i) where
  mem := by simp
  obj := fun i h st c hc => by
    obtain ⟨hz, hTI, ⟨a, b, hTO⟩, h1, h2⟩ := st
    have e' : c = z ∨ c = TI ∨ c = TO ∨ c = i1 ∨ c = i2 := by simpa using hc
    rcases e' with q | q | q | q | q
    · rw [q]; exact ⟨_, hz, fun v q => nomatch q⟩
    · rw [q]; exact ⟨_, hTI, fun v q => nomatch q⟩
    · rw [q]; exact ⟨_, hTO, fun v q => nomatch q⟩
    · rw [q]; exact h1.obj
    · rw [q]; exact h2.obj
  keep := fun i h h' st k => by
    obtain ⟨hz, hTI, ⟨a, b, hTO⟩, h1, h2⟩ := st
    exact ⟨k z (by simp) _ hz, k TI (by simp) _ hTI, ⟨a, b, k TO (by simp) _ hTO⟩, h1.at fun o q => k i1 (by simp) o q, h2.at fun o q => k i2 (by simp) o q⟩
  item := by
    intro X hP hw hK hc i pins s σ H E I hf st hg
    subst hP hw hK
    obtain ⟨hz, hTI, ⟨a0, b0, hTO⟩, h1, h2⟩ := st
    obtain ⟨xs, ys, a, b, hqx, hqy, hx, hy⟩ := hg
    obtain ⟨it1, p1, _, d1⟩ := hqx.get I
    obtain ⟨it2, p2, _, d2⟩ := hqy.get I
    have hzl : z < s.heap.objs.size := Heap.lt_size hz
    have hd := I.ok.hd hc
    refine pyNext2_item (d1 X.A.in1 i1 hd ox.i1) (d2 X.A.in1 i2 hd oy.i2) (ap2_of D ox oy) hz hTI hTO ⟨h1, p1⟩ ⟨h2, p2⟩
      (List.getElem?_eq_some_iff.mp hx).1 (List.getElem?_eq_some_iff.mp hy).1 fun v1 v2 h' tk e1 e2 z' TO' s1 s2 hT hsz hk => ?_
    obtain ⟨a', ea, r1⟩ := e1
    obtain ⟨b', eb, r2⟩ := e2
    have ea := Option.some.inj (hx.symm.trans ea)
    have eb := Option.some.inj (hy.symm.trans eb)
    subst ea eb
    refine ⟨_, rfl, wpAny_letOwnedTupleGo_zip (s := { s with heap := h', toks := tk }) z' fun h'' z'' sb => ?_⟩
    have hT2 : h''.get? s.heap.objs.size = some { cls := .type "tuple", data := .seq #[v1, v2] } := (sb.2 _ (Nat.ne_of_gt hzl)).trans hT
    have new : ObjOk X.prog X.w (upd H s.heap.objs.size (.tup [a, b])) h'' s.heap.objs.size (.tup [a, b]) :=
      ⟨by show 2 ≤ sizeLine; decide, [v1, v2], .cons r1 (.cons r2 .nil), ⟨_, hT2, rfl, _, rfl⟩⟩
    have I1 : Inv X pins σ (upd H s.heap.objs.size (.tup [a, b])) { s with heap := h'', toks := tk } :=
      I.turnedNew (t' := tk) (ch := [z, TI, TO, i1, i2]) (fun c o hb q => (sb.2 c (fun q' => hb (by simp [q']))).trans (hk c o (fun q' => hb (by simp [q'])) (fun q' => hb (by simp [q'])) (fun q' => hb (by simp [q'])) (fun q' => hb (by simp [q'])) q)) hf (Nat.le_refl _) new
    refine ⟨.ref s.heap.objs.size, _, I1, rfl, ⟨_, a, b, rfl, I.hok.fresh (Nat.le_refl _), rfl, fun l hl => by rw [hl.inj I hqx]; exact hx, fun l hl => by rw [hl.inj I hqy]; exact hy⟩, ⟨z'', ?_, ⟨v1, v2, ?_⟩, ?_, ?_⟩, fun c hcm => ?_⟩
    · exact (sb.2 _ D.a1.symm).trans (hk _ _ D.a1.symm D.b2 D.b3 D.b4 hTI)
    · exact (sb.2 _ D.a2.symm).trans TO'
    · exact s1.1.at fun o q => (sb.2 _ D.a3.symm).trans q
    · exact s2.1.at fun o q => (sb.2 _ D.a4.symm).trans q
    · have hlt : c < s.heap.objs.size := by
        have e' : c = z ∨ c = TI ∨ c = TO ∨ c = i1 ∨ c = i2 := by simpa using hcm
        rcases e' with q | q | q | q | q
        · rw [q]; exact hzl
        · rw [q]; exact Heap.lt_size hTI
        · rw [q]; exact Heap.lt_size hTO
        · rw [q]; obtain ⟨_, e1, _⟩ := h1.obj; exact Heap.lt_size e1
        · rw [q]; obtain ⟨_, e2, _⟩ := h2.obj; exact Heap.lt_size e2
      rw [upd_ne (Nat.ne_of_lt hlt)]
      exact (hf c hcm).1
  done := by
    intro X hP hw hK hc i pins s σ H E I hf st hg
    subst hP hw hK
    obtain ⟨hz, hTI, ⟨a0, b0, hTO⟩, h1, h2⟩ := st
    obtain ⟨xs, ys, hqx, hqy, l1, l2, hend⟩ := hg
    obtain ⟨it1, p1, _, d1⟩ := hqx.get I
    obtain ⟨it2, p2, _, d2⟩ := hqy.get I
    have hd := I.ok.hd hc
    exact pyNext2_end (d1 X.A.in1 i1 hd ox.i1) (d2 X.A.in1 i2 hd oy.i2) (ap2_of D ox oy) hz hTI hTO ⟨h1, p1⟩ ⟨h2, p2⟩
      (by omega) fun h' tk hk => ⟨rfl, I.turnedL (t' := tk) (ch := [z, TI, TO, i1, i2]) (fun c o hb q =>
      hk c o (fun q' => hb (by simp [q'])) (fun q' => hb (by simp [q'])) (fun q' => hb (by simp [q'])) (fun q' => hb (by simp [q'])) q) hf⟩
  self := fun A i s Q E st h => wpAny_pyIter_zip st.1 h
/-- the sources that two values are -/
def ScR (x : Sc) (v : V) : Prop := match x with
  | .l a => v = .ref a
  | .t a => v = .ref a
  | .s x _ => v = .str x
def iZ2 (K : PySem.W.Frag) (ta : TA) : TI := fun σ H R => ta σ H fun vs H1 => ∃ (v1 v2 : V) (f1 f2 : Tok → Sc), vs = [v1, v2] ∧ (∀ t, ScR (f1 t) v1) ∧ (∀ t, ScR (f2 t) v2) ∧ (∀ t z u, f1 t = .s z u → u = t) ∧ (∀ t z u, f2 t = .s z u → u = t) ∧
  ∀ t1 t2, ∃ xs ys, ScV K H1 (f1 t1) xs ∧ ScV K H1 (f2 t2) ys ∧ R (ItZ2 K (f1 t1) (f2 t2)) H1
theorem sc_val {x : Sc} {v : V} {u : Value} {t : Tok} (h : ScR x v) (r : RelV v u) (ht : ∀ z w, v = .str z → u = .str z w → t = w) (hs : ∀ z w, x = .s z w → w = t) : u = x.v := by
  cases x with
  | l a => cases (show v = .ref a from h); exact r
  | t a => cases (show v = .ref a from h); exact r
  | s z w =>
    cases (show v = .str z from h)
    obtain ⟨w', rfl⟩ := r
    have e1 := ht z w' rfl rfl
    have e2 := hs z w rfl
    subst e1 e2
    rfl
def tokOf : Value → Tok
  | .str _ t => t
  | _ => 0
theorem pi_z2 {X : Cx} {e e2 : Expr} {ta : TA} {p pos tpos : Pos} {elts : List Expr} {kk : Nat} (hg : Gl X "zip") (hm : X.mg "zip" = none) (ha : PA X [e, e2] ta)
    (hs : starEach [e, e2] X.env = (false, eval e X.env) :: starEach [e2] X.env := by rfl) (hpl : (backTo pos (starEach [e2] X.env)).any (·.1) = false := by rfl) :
    PI X (.Tuple elts kk tpos) (.Call (.Name "zip" p) [e, e2] [] pos) (iZ2 X.K ta) := by
  refine ⟨fun pins s σ H R I h => ?_⟩
  refine Call_ (ld_blt I hg hm PyProof.Rows.boot_zip (PyProof.Rows.callWith_type1 (thn (ha.run pos pins s σ H _ I h) fun us s1 ⟨vs, H1, I1, r1, q1⟩ => ?_) hs hpl))
  obtain ⟨v1, v2, g1, g2, ex, hf1, hf2, sx, sy, q1⟩ := q1
  subst ex
  obtain ⟨w1, w2, rfl, r, r'⟩ : ∃ w1 w2, us = [w1, w2] ∧ RelV v1 w1 ∧ RelV v2 w2 := by
    cases r1 with
    | cons r rr =>
      cases rr with
      | cons r' rr =>
        cases rr
        exact ⟨_, _, rfl, r, r'⟩
  obtain ⟨xs, ys, hqx, hqy, q⟩ := q1 (tokOf w1) (tokOf w2)
  have eu1 : w1 = (g1 (tokOf w1)).v := sc_val (hf1 _) r (fun z w _ e => by rw [e]; rfl) (sx _)
  have eu2 : w2 = (g2 (tokOf w2)).v := sc_val (hf2 _) r' (fun z w _ e => by rw [e]; rfl) (sy _)
  generalize g1 (tokOf w1) = x at *
  generalize g2 (tokOf w2) = y at *
  subst eu1 eu2
  obtain ⟨it1, p1, _, _⟩ := hqx.get I1
  obtain ⟨it2, p2, _, _⟩ := hqy.get I1
  have f5 : ∀ c, c ∈ [s1.heap.objs.size + 4, s1.heap.objs.size + 2, s1.heap.objs.size + 3, s1.heap.objs.size, s1.heap.objs.size + 1] → FpOk X pins H1 c := fun c hcm => by
    have e' : c = s1.heap.objs.size + 4 ∨ c = s1.heap.objs.size + 2 ∨ c = s1.heap.objs.size + 3 ∨ c = s1.heap.objs.size ∨ c = s1.heap.objs.size + 1 := by simpa using hcm
    have hle : s1.heap.objs.size ≤ c := by
      rcases e' with z | z | z | z | z
      · rw [z]; exact Nat.le_add_right _ _
      · rw [z]; exact Nat.le_add_right _ _
      · rw [z]; exact Nat.le_add_right _ _
      · rw [z]; exact Nat.le_refl _
      · rw [z]; exact Nat.le_add_right _ _
    exact I1.fpOk hle (I1.hok.fresh hle)
  have off : ∀ {v : Sc} {items : Array Value}, v.Is s1.heap items → Off2 v (s1.heap.objs.size + 4) (s1.heap.objs.size + 2) (s1.heap.objs.size + 3) s1.heap.objs.size (s1.heap.objs.size + 1) := fun {v items} p =>
    ⟨fun a e => Nat.ne_of_lt (Nat.lt_add_right _ (p.lt a e)), fun a e => Nat.ne_of_lt (Nat.lt_add_right _ (p.lt a e)), fun a e => Nat.ne_of_lt (p.lt a e), fun a e => Nat.ne_of_lt (Nat.lt_add_right _ (p.lt a e))⟩
  have ap : ∀ n : Nat, Ap2 (n + 4) (n + 2) (n + 3) n (n + 1) := fun n => by constructor <;> (show (_ : Nat) ≠ (_ : Nat); omega)
  refine call_z2 p1 p2 fun h' hz hTI hTO h1 h2 hsz hk => wpAny_pyIter_zip hz ?_
  have I2 : Inv X pins σ H1 { s1 with heap := h' } := I1.kept (t' := s1.toks) hk
  exact ⟨s1.heap.objs.size + 4, [s1.heap.objs.size + 4, s1.heap.objs.size + 2, s1.heap.objs.size + 3, s1.heap.objs.size, s1.heap.objs.size + 1], _, _, H1, rfl, I2, turn_z2 (ap _) (off p1) (off p2), ⟨hz, hTI, ⟨_, _, hTO⟩, h1, h2⟩, f5, q⟩
end Z
namespace Z
open PySem PySem.Spec PyProof.Rows L2 Z2
/-- the items of a tuple, a list or a text -/
def srxD (x : DV) (C : Cs) : Option (List D) := match x with
  | .of (.str l) => some (l.map fun c => .str [c])
  | x => srcD x C
section
variable {K : PySem.W.Frag} [Gd K] {X : Cx} {t : TA} {dt : DTA} {te : TE} {de : DTE} {pos : Pos}
theorem srxD_ok {W : Wd} {C : Cs} {v : V} {x : DV} {l : List D} (m : Mem K W C) (r : RepV K W v x) (h : srxD x C = some l) :
    ∃ f : Tok → Sc, (∀ t, ScR (f t) v) ∧ (∀ t z u, f t = .s z u → u = t) ∧ ∀ t W2 C2, Ext W W2 → Mem K W2 C2 → srxD x C2 = some l → ∃ us, ScV K W2.H (f t) us ∧ Reps K W2 us l := by
  have other : (∀ q, x ≠ .of (.str q)) → srcD x C = some l → ∃ f : Tok → Sc, (∀ t, ScR (f t) v) ∧ (∀ t z u, f t = .s z u → u = t) ∧ ∀ t W2 C2, Ext W W2 → Mem K W2 C2 → srxD x C2 = some l → ∃ us, ScV K W2.H (f t) us ∧ Reps K W2 us l := fun hn h => by
    obtain ⟨y, rfl, k⟩ := srcD_ok m r h
    have e : ∀ C2, srxD x C2 = srcD x C2 := fun C2 => by
      unfold srxD
      split
      · rename_i q _; exact absurd rfl (hn q)
      · rfl
    cases y with
    | l a => exact ⟨fun _ => .l a, fun _ => rfl, fun t z u e => (by cases e), fun t W2 C2 e2 m2 q => k W2 C2 e2 m2 (by rw [← e]; exact q)⟩
    | t a => exact ⟨fun _ => .t a, fun _ => rfl, fun t z u e => (by cases e), fun t W2 C2 e2 m2 q => k W2 C2 e2 m2 (by rw [← e]; exact q)⟩
  unfold srxD at h
  split at h
  · rename_i q
    cases h
    obtain ⟨z, rfl, rfl⟩ := rep_str r
    refine ⟨fun t => .s z t, fun _ => rfl, fun t z' u e => by cases e; rfl, fun t W2 C2 _ _ _ => ⟨_, rfl, ?_⟩⟩
    have key : ∀ l : List Nat, Reps K W2 (l.map fun c => V.str ⟨#[c]⟩) (l.map fun c => D.str [c]) := fun l => by
      induction l with
      | nil => exact .nil
      | cons c l ih => exact .cons _ _ _ _ (rep_of rfl) ih
    exact key _
  · rename_i hn
    exact other (fun q e => hn q e) h
def iqZ2 (d : DTA) : DTI := fun S C Q => d S C fun xs C1 => match xs with
  | [x, y] => (match srxD x C1, srxD y C1 with | some l, some m => Q (zipD l m) (fun C => srxD x C = some l ∧ srxD y C = some m) C1 | _, _ => False)
  | _ => False
theorem qi_zip2 {e1 e2 : Expr} {elts : List Expr} {kk : Nat} {tpos p : Pos} (hK : X.K = K) (hg : Gl X "zip") (hm : X.mg "zip" = none) (ha : QA K X [e1, e2] 2 t dt)
    (hs : starEach [e1, e2] X.env = (false, eval e1 X.env) :: starEach [e2] X.env := by rfl) (hpl : (backTo pos (starEach [e2] X.env)).any (·.1) = false := by rfl) :
    QI K X (.Tuple elts kk tpos) (.Call (.Name "zip" p) [e1, e2] [] pos) (iZ2 K t) (iqZ2 dt) := ⟨by subst hK; exact pi_z2 hg hm ha.p hs hpl, fun W S C σ st QD R q k => ha.r W S C σ st _ _ q fun vs xs W1 C1 hln e1 s1 r1 q1 => by
  split at q1
  · rename_i x y
    split at q1
    · rename_i l m hl hm'
      obtain ⟨v1, v2, rfl, r1, r2⟩ := repVs2 r1
      obtain ⟨f1, g1, h1, k1⟩ := srxD_ok s1.m r1 hl
      obtain ⟨f2, g2, h2, k2⟩ := srxD_ok s1.m r2 hm'
      refine ⟨v1, v2, f1, f2, rfl, g1, g2, h1, h2, fun t1 t2 => ?_⟩
      obtain ⟨us1, a1, _⟩ := k1 t1 W1 C1 .refl s1.m hl
      obtain ⟨us2, a2, _⟩ := k2 t2 W1 C1 .refl s1.m hm'
      refine ⟨us1, us2, a1, a2, k _ W1 C1 _ _ e1 s1 (fun W2 C2 e2 m2 hok => ?_) q1⟩
      obtain ⟨o1, o2⟩ := hok
      obtain ⟨w1, a1, b1⟩ := k1 t1 W2 C2 e2 m2 o1
      obtain ⟨w2, a2, b2⟩ := k2 t2 W2 C2 e2 m2 o2
      rw [zipD_len]
      refine ⟨fun i hi => ?_, w1, w2, a1, a2, by rw [b1.len]; omega, by rw [b2.len]; omega, by rw [b1.len, b2.len]; omega⟩
      have i1 : i < w1.length := by rw [b1.len]; omega
      have i2 : i < w2.length := by rw [b2.len]; omega
      refine ⟨⟨w1, w2, w1[i], w2[i], a1, a2, List.getElem?_eq_getElem _, List.getElem?_eq_getElem _⟩, fun x H' hy => ?_⟩
      obtain ⟨T, u1, u2, rfl, hT, rfl, h1, h2⟩ := hy
      obtain ⟨d1, e1, f1⟩ := b1.at' (h1 w1 a1)
      obtain ⟨d2, e2, f2⟩ := b2.at' (h2 w2 a2)
      have pe := (Ext.new (W := W2) (o := .tup [u1, u2]) hT).pers m2.wrws
      exact ⟨W2.new T _, Ext.new hT, rfl, m2.new hT, .tup [d1, d2], zipD_at e1 e2, .tup _ _ _ upd_same (m2.fresh hT).1 (.cons _ _ _ _ (Rep.mono pe f1) (.one (Rep.mono pe f2)))⟩
    · exact q1.elim
  · exact q1.elim⟩
end
end Z

set_option Elab.async false
set_option linter.all false
set_option maxRecDepth 100000
set_option maxHeartbeats 4000000
/-! ### enumerate of a text; len, str, repr of one's own; try whose body raises nothing -/
namespace Z
open PySem PySem.Spec PyProof.Rows L2 Z2
/-- the text, each sign in a new pair with its number -/
def IteS (z : Str) : It :=
  ⟨fun i H => i < z.cps.size, fun i H v H' => ∃ T c, z.cps[i]? = some c ∧ v = .ref T ∧ H T = none ∧ H' = upd H T (.tup [.int (i : Nat), .str ⟨#[c]⟩]), fun i H => z.cps.size = i⟩
theorem turn_enS {P : Program} {w : World} {K : PySem.W.Frag} {elts : List Expr} {kk : Nat} {tpos : Pos} (z : Str) (u : Tok) (e it : Addr) :
    Turn P w K (.Tuple elts kk tpos) (IteS z) [e, it] e (fun i h => (∃ old, IsEnum h e it ((i : Nat) : Int) old) ∧ (Sc.s z u).St h it i ∧ e ≠ it) where
  mem := by simp
  obj := fun i h st b hb => by
    obtain ⟨⟨old, he⟩, h2, _⟩ := st
    have e' : b = e ∨ b = it := by simpa using hb
    rcases e' with z | z
    · rw [z]; exact ⟨_, he, fun v q => nomatch q⟩
    · rw [z]; exact h2.obj
  keep := fun i h h' st k => let ⟨⟨old, he⟩, hi, hne⟩ := st; ⟨⟨old, k e (by simp) _ he⟩, hi.at fun o q => k it (by simp) o q, hne⟩
  item := by
    intro X hP hw hK hc i pins s σ H E I hf st hg
    subst hP hw hK
    obtain ⟨⟨old, he⟩, hit, hne⟩ := st
    have hg' : i < z.cps.size := hg
    obtain ⟨its, p, _, d⟩ := ScV.get (x := .s z u) (xs := z.cps.toList.map fun c => V.str ⟨#[c]⟩) I rfl
    have D := d X.A.in1 it (I.ok.hd hc) (fun a q => (by cases q))
    have hl : (z.cps.toList.map fun c => V.str ⟨#[c]⟩).length = z.cps.size := by rw [List.length_map, Array.length_toList]
    have hel : e < s.heap.objs.size := Heap.lt_size he
    have hil : it < s.heap.objs.size := by obtain ⟨_, q, _⟩ := hit; exact Heap.lt_size q
    refine wpAny_pyNext_enum_itemD D he ⟨hit, p⟩ (by rw [hl]; exact hg') hne (by simp [Sc.fp, hne]) fun u' h' tk hu' ho hit' hT hsz hk => ?_
    obtain ⟨y, hy, ry⟩ := hu'
    rw [List.getElem?_map, Array.getElem?_toList, Array.getElem?_eq_getElem hg'] at hy
    have hy := Option.some.inj hy
    subst hy
    refine ⟨_, rfl, wpAny_letOwnedTupleGo_enum (s := { s with heap := h', toks := tk + 1 }) ho fun h'' he' sb => ?_⟩
    have hT2 : h''.get? s.heap.objs.size = some { cls := .type "tuple", data := .seq #[.int i tk, u'] } := (sb.2 _ (Nat.ne_of_gt hel)).trans hT
    have new : ObjOk X.prog X.w (upd H s.heap.objs.size (.tup [.int (i : Nat), .str ⟨#[z.cps[i]]⟩])) h'' s.heap.objs.size (.tup [.int (i : Nat), .str ⟨#[z.cps[i]]⟩]) :=
      ⟨by show 2 ≤ sizeLine; decide, [.int i tk, u'], .cons ⟨_, rfl⟩ (.cons ry .nil), ⟨_, hT2, rfl, _, rfl⟩⟩
    have I1 : Inv X pins σ (upd H s.heap.objs.size (.tup [.int (i : Nat), .str ⟨#[z.cps[i]]⟩])) { s with heap := h'', toks := tk + 1 } :=
      I.turnedNew (ch := [e, it]) (fun b ob hb q => (sb.2 b (fun z => hb (by simp [z]))).trans (hk b ob (fun z => hb (by simp [z])) (fun z => hb (by simp [z])) q)) hf (Nat.le_refl _) new
    refine ⟨.ref s.heap.objs.size, _, I1, rfl, ⟨_, z.cps[i], Array.getElem?_eq_getElem hg', rfl, I.hok.fresh (Nat.le_refl _), rfl⟩, ⟨⟨u', ?_⟩, hit'.1.at fun o q => (sb.2 it (Ne.symm hne)).trans q, hne⟩, fun b hb => ?_⟩
    · have e1 : ((i + 1 : Nat) : Int) = (i : Int) + 1 := by omega
      rw [e1]; exact he'
    · have hb' : b < s.heap.objs.size := by
        have e' : b = e ∨ b = it := by simpa using hb
        rcases e' with z | z
        · rw [z]; exact hel
        · rw [z]; exact hil
      rw [upd_ne (Nat.ne_of_lt hb')]
      exact (hf b hb).1
  done := by
    intro X hP hw hK hc i pins s σ H E I hf st hg
    subst hP hw hK
    obtain ⟨⟨old, he⟩, hit, hne⟩ := st
    have hg' : z.cps.size = i := hg
    obtain ⟨its, p, _, d⟩ := ScV.get (x := .s z u) (xs := z.cps.toList.map fun c => V.str ⟨#[c]⟩) I rfl
    have D := d X.A.in1 it (I.ok.hd hc) (fun a q => (by cases q))
    have hl : (z.cps.toList.map fun c => V.str ⟨#[c]⟩).length = i := by rw [List.length_map, Array.length_toList]; exact hg'
    obtain ⟨f0, f1, f2, f3, f4, f5⟩ := hf it (by simp)
    exact wpAny_pyNext_enum_endD D he (by rw [hl]; exact ⟨hit, p⟩) fun h' eb => ⟨rfl, I.turned (t' := s.toks) (fun b o hb q => eb b o hb q) f0 f1 f3 f4 f5⟩
  self := fun A i s Q E st h => let ⟨⟨_, he⟩, _⟩ := st; wpAny_pyIter_enum he h
def iEnS (te : TA) : TI := fun σ H R => te σ H fun vs H1 => ∃ z, vs = [.str z] ∧ R (IteS z) H1
theorem pi_enS {X : Cx} {e : Expr} {ta : TA} {p pos tpos : Pos} {elts : List Expr} {kk : Nat} (hg : Gl X "enumerate") (hm : X.mg "enumerate" = none) (ha : PA X [e] ta) (hs : starEach [e] X.env = [(false, eval e X.env)] := by rfl) :
    PI X (.Tuple elts kk tpos) (.Call (.Name "enumerate" p) [e] [] pos) (iEnS ta) := by
  refine ⟨fun pins s σ H R I h => ?_⟩
  refine Call_ (ld_blt I hg hm boot_enumerate (PyProof.Rows.callWith_type1 (thn (ha.run pos pins s σ H _ I h) fun us s1 ⟨vs, H1, I1, r1, q1⟩ => ?_) hs rfl))
  obtain ⟨z, ex, q⟩ := q1
  subst ex
  obtain ⟨u, rfl⟩ : ∃ u, us = [.str z u] := by
    cases r1 with
    | cons r rr =>
      cases rr
      obtain ⟨t, rfl⟩ := r
      exact ⟨t, rfl⟩
  have fp : ∀ b ∈ [s1.heap.objs.size + 1, s1.heap.objs.size], s1.heap.objs.size ≤ b := fun b hb => by
    have e' : b = s1.heap.objs.size + 1 ∨ b = s1.heap.objs.size := by simpa using hb
    rcases e' with z | z
    · rw [z]; exact Nat.le_add_right _ _
    · rw [z]; exact Nat.le_refl _
  refine call_enumerate_str fun h' he hit hsz hk => wpAny_pyIter_enum he ?_
  have I2 : Inv X pins σ H1 { s1 with heap := h' } := I1.kept (t' := s1.toks) hk
  exact ⟨s1.heap.objs.size + 1, [s1.heap.objs.size + 1, s1.heap.objs.size], _, _, H1, rfl, I2, turn_enS z u (s1.heap.objs.size + 1) s1.heap.objs.size, ⟨⟨.none, he⟩, hit, Nat.succ_ne_self _⟩, fun b hb => I1.fpOk (fp b hb) (I1.hok.fresh (fp b hb)), q⟩
section
variable {K : PySem.W.Frag} [Gd K] {X : Cx} {t : TA} {dt : DTA} {pos : Pos}
def iqEs (d : DTA) : DTI := fun S C Q => d S C fun xs C1 => match xs with
  | [.of (.str l)] => Q (enumD 0 (l.map fun c => .str [c])) (fun _ => True) C1
  | _ => False
theorem qi_enumS {e1 : Expr} {elts : List Expr} {kk : Nat} {tpos p : Pos} (hg : Gl X "enumerate") (hm : X.mg "enumerate" = none) (ha : QA K X [e1] 1 t dt) (hs : starEach [e1] X.env = [(false, eval e1 X.env)] := by rfl) : QI K X (.Tuple elts kk tpos) (.Call (.Name "enumerate" p) [e1] [] pos) (iEnS t) (iqEs dt) := ⟨pi_enS hg hm ha.p hs, fun W S C σ st QD R q k => ha.r W S C σ st _ _ q fun vs xs W1 C1 hln e1 s1 r1 q1 => by
  split at q1
  · rename_i l
    obtain ⟨v, rfl, r0⟩ := repVs1 r1
    obtain ⟨z, rfl, rfl⟩ := rep_str r0
    refine ⟨z, rfl, k _ W1 C1 _ _ e1 s1 (fun W2 C2 e2 m2 _ => ?_) q1⟩
    rw [enumD_len, List.length_map, Array.length_toList]
    refine ⟨fun i hi => ⟨hi, fun x H' hy => ?_⟩, rfl⟩
    obtain ⟨T, c, hc, rfl, hT, rfl⟩ := hy
    refine ⟨W2.new T _, Ext.new hT, rfl, m2.new hT, .tup [.int (i : Nat), .str [c]], ?_, .tup _ _ _ upd_same (m2.fresh hT).1 (.cons _ _ _ _ (.int _) (.one (rep_of rfl)))⟩
    have := enumD_at (k := 0) (l := (cl z).map fun c => D.str [c]) (i := i) (d := .str [c]) (by rw [List.getElem?_map, Array.getElem?_toList, hc]; rfl)
    rw [Nat.zero_add] at this; exact this
  · exact q1.elim⟩
end
/-! one's own __len__, __str__, __repr__ -/
section
variable {X : Cx} {CX : CXT} {k : Nat} {f : Addr} {fd : FuncData} {ps : List Str} {sp : Sp} {E : XK}
theorem own_call1 (F : FnOk X.prog X.w X.K X.mg X.base CX k f fd ps sp) (hb : Binds X.K fd ps []) (hx : Passes CX X E) {A : Around} (hr : Room k A) (hfr : A.frames = X.A.frames) {pins : List (Addr × Obj)} {s : Shared} {σ : L2.St} {H : Hp} {x : V} {u : Value} (I : Inv X pins σ H s) (rx : RelV x u)
    {R : V → Hp → Prop} (h : sp [x] H R E) : wpAny (model X.prog X.w) A (call (.ref f) [u]) (fun r s' => ∃ y H', Inv X pins σ H' s' ∧ RelV y r ∧ R y H') X.xe s := by
  have e0 : Env0 X.prog X.w X.K X.mg X.base A X.stack s H := by
    have e := I.env0
    exact ⟨by rw [hfr]; exact e.frames, e.mod, e.bs, e.bsz, e.funs, e.frf, e.hok, e.bare⟩
  have hl := F.len _ _ _ _ h
  have r2 : Vals [x] [u] := .cons rx .nil
  refine wpAny_call (codeAny_mono (F.run A X.stack s H ⟨[u], []⟩ [u] [x] _ E hr e0 (by
    have := hb s [u] I.kIn (by simpa using hl)
    simpa using this) r2 h) fun r s' hq => ?_)
  cases r with
  | error e => exact hx pins σ H s e s' I hq
  | ok fl =>
    cases fl with
    | ret w =>
      obtain ⟨z, H', I', rz, q⟩ := I.after hq
      exact ⟨z, H', I', rz, q⟩
    | next => exact False.elim hq
    | brk => exact False.elim hq
    | cont => exact False.elim hq
end
def rOwn1 (K : PySem.W.Frag) (c : Str) (sp : Sp) (E : XK) (P : V → Prop) : List V → Hp → VK → Prop := fun xs H Q => ∃ a dx fs, xs = [.ref a] ∧ H a = some (.ins (He.ga K c) dx fs) ∧ sp [.ref a] H (fun v H' => P v ∧ Q v H') E
def lenV : V → Prop
  | .int n => 0 ≤ n ∧ n < 2 ^ 62
  | _ => False
def strV : V → Prop
  | .str _ => True
  | _ => False
def lenD : DV → Prop
  | .of (.int n) => 0 ≤ n ∧ n < 2 ^ 62
  | _ => False
def strD : DV → Prop
  | .of (.str _) => True
  | _ => False
def dOwn1 (c : Str) (mds : List Md) (d : DSp) (P : DV → Prop) : DRA := fun xs C Q => match xs with
  | [x] => (match kindX x C with | some (.own c') => c' = c | _ => False) ∧ callD mds d [x] C fun r C' => P r ∧ Q r C'
  | _ => False
section
variable {K : PySem.W.Frag} [Gd K] {X : Cx} {CX : CXT} {k j : Nat} {c ms : Str} {mds : List Md} {d : DSp} {E : XK}
theorem refC_own1 {PV : V → Prop} {PD : DV → Prop} (hP : ∀ W v x, RepV K W v x → PD x → PV v) : RefC K 1 (rOwn1 K c (rawSp K 1 d) E PV) (dOwn1 c mds d PD) := fun W S C σ st vs xs QD Q hlen r q k => by
  unfold dOwn1 at q
  split at q
  · rename_i x
    obtain ⟨q1, q2⟩ := q
    split at q1
    · rename_i c' hx
      subst q1
      obtain ⟨v, rfl, r0⟩ := repVs1 r
      obtain ⟨a, dx, fs, rfl, ha⟩ := ins_of st.m r0 hx
      exact ⟨a, dx, fs, rfl, ha, call_ok (Q := fun v H' => PV v ∧ Q v H') st (.cons _ _ _ _ r0 .nil) rfl q2 fun v x W' C' e' s' r' q' => ⟨hP _ _ _ r' q'.1, k _ _ W' C' e' s' r' q'.2⟩⟩
    · exact q1.elim
  · exact q.elim
theorem len_hP : ∀ W v x, RepV K W v x → lenD x → lenV v := fun W v x r h => by
  unfold lenD at h
  split at h
  · cases r; exact h
  · exact h.elim
theorem str_hP : ∀ W v x, RepV K W v x → strD x → strV v := fun W v x r h => by
  unfold strD at h
  split at h
  · obtain ⟨z, rfl, _⟩ := rep_str r; trivial
  · exact h.elim
theorem cr_ownLen {sp : Sp} (h : MethC X.prog X.w X.K X.mg X.base CX k c "__len__" sp []) (hr : Room j X.A) (hk : k + 1 ≤ j) (hx : Passes CX X E) : CallR X (.builtin "len") (rOwn1 X.K c sp E lenV) := by
  intro pins s σ H xs us Q I r q
  obtain ⟨a, dx, fs, rfl, ha, q⟩ := q
  obtain ⟨f, fd, ps, ds, cl, me, F, b, v⟩ := h
  cases v
  obtain rfl := Vals.ref1 r
  obtain ⟨mA, J, _⟩ := ins_get I.hok ha
  obtain ⟨od, J, _⟩ := J.look
  obtain ⟨m, hF⟩ := I.fr
  refine PySem.W.len_K hF I.ok.mod.kin J me.at_ me.fn (wpAny_mono (own_call1 F b hx ((hr.mono hk).in1) rfl I (show RelV (.ref a) (.ref a) from rfl) q) (fun r s' z => ?_) fun _ _ e => e)
  obtain ⟨y, H', I', ry, hP, q'⟩ := z
  cases y with
  | int n =>
    obtain ⟨t, rfl⟩ := ry
    have h1 : (2 : Int) ^ 62 < 2 ^ 63 := by decide
    exact ⟨⟨hP.1, Int.lt_trans hP.2 h1⟩, ⟨.int n, H', I'.tok _, ⟨_, rfl⟩, q'⟩⟩
  | _ => exact hP.elim
theorem cr_ownStr {sp : Sp} (h : MethC X.prog X.w X.K X.mg X.base CX k c "__str__" sp []) (hr : Room j X.A) (hk : k + 2 ≤ j) (hx : Passes CX X E) : CallR X (.type "str") (rOwn1 X.K c sp E strV) := by
  intro pins s σ H xs us Q I r q
  obtain ⟨a, dx, fs, rfl, ha, q⟩ := q
  obtain ⟨f, fd, ps, ds, cl, me, F, b, v⟩ := h
  cases v
  obtain rfl := Vals.ref1 r
  obtain ⟨mA, J, _⟩ := ins_get I.hok ha
  obtain ⟨od, J, _⟩ := J.look
  have hr2 := (hr.mono hk).in1.in1
  refine PySem.W.kso_call hr2.units0 I.kIn J me.at_ me.fn (wpAny_mono (own_call1 F b hx hr2 rfl I (show RelV (.ref a) (.ref a) from rfl) q) (fun r s' z => ?_) fun _ _ e => e)
  obtain ⟨y, H', I', ry, hP, q'⟩ := z
  cases y with
  | str n =>
    obtain ⟨t, rfl⟩ := ry
    exact ⟨.str n, H', I', ⟨_, rfl⟩, q'⟩
  | _ => exact hP.elim
theorem cr_ownRepr {sp : Sp} (h : MethC X.prog X.w X.K X.mg X.base CX k c "__repr__" sp []) (hr : Room j X.A) (hk : k + 1 ≤ j) (hx : Passes CX X E) : CallR X (.builtin "repr") (rOwn1 X.K c sp E strV) := by
  intro pins s σ H xs us Q I r q
  obtain ⟨a, dx, fs, rfl, ha, q⟩ := q
  obtain ⟨f, fd, ps, ds, cl, me, F, b, v⟩ := h
  cases v
  obtain rfl := Vals.ref1 r
  obtain ⟨mA, J, _⟩ := ins_get I.hok ha
  obtain ⟨od, J, _⟩ := J.look
  obtain ⟨m, hF⟩ := I.fr
  have hr1 := (hr.mono hk).in1
  refine PySem.W.repr_K hr1.units0 hF I.ok.mod.kin J me.at_ me.fn (wpAny_mono (own_call1 F b hx hr1 rfl I (show RelV (.ref a) (.ref a) from rfl) q) (fun r s' z => ?_) fun _ _ e => e)
  obtain ⟨y, H', I', ry, hP, q'⟩ := z
  cases y with
  | str n =>
    obtain ⟨t, rfl⟩ := ry
    exact ⟨.str n, H', I', ⟨_, rfl⟩, q'⟩
  | _ => exact hP.elim
theorem cq_ownLen (h : MethC X.prog X.w K X.mg X.base CX k c "__len__" (rawSp K 1 d) []) (hr : Room j X.A) (hk : k + 1 ≤ j) (hx : Passes CX X E) (hK : X.K = K) : QC K X (.builtin "len") 1 (rOwn1 K c (rawSp K 1 d) E lenV) (dOwn1 c mds d lenD) := ⟨by subst hK; exact cr_ownLen h hr hk hx, refC_own1 len_hP⟩
theorem cq_ownStr (h : MethC X.prog X.w K X.mg X.base CX k c "__str__" (rawSp K 1 d) []) (hr : Room j X.A) (hk : k + 2 ≤ j) (hx : Passes CX X E) (hK : X.K = K) : QC K X (.type "str") 1 (rOwn1 K c (rawSp K 1 d) E strV) (dOwn1 c mds d strD) := ⟨by subst hK; exact cr_ownStr h hr hk hx, refC_own1 str_hP⟩
theorem cq_ownRepr (h : MethC X.prog X.w K X.mg X.base CX k c "__repr__" (rawSp K 1 d) []) (hr : Room j X.A) (hk : k + 1 ≤ j) (hx : Passes CX X E) (hK : X.K = K) : QC K X (.builtin "repr") 1 (rOwn1 K c (rawSp K 1 d) E strV) (dOwn1 c mds d strD) := ⟨by subst hK; exact cr_ownRepr h hr hk hx, refC_own1 str_hP⟩
end
/-! try, nothing raised -/
theorem qs_try {K : PySem.W.Frag} [Gd K] {X : Cx} {body : List Stmt} {h₀ : ExceptHandler} {hs : List ExceptHandler} {pos : Pos} {t : TS} {d : DTS} (h : QSs K X.nox body t d) : QS K X (.Try body (h₀ :: hs) [] [] pos) t d := ⟨ps_try_thru0 h.p, h.r⟩
end Z
namespace Z
/-- where nothing else is said -/
instance (priority := low) gdI (K : PySem.W.Frag) : Gd K := gd0 K
end Z

set_option Elab.async false
set_option linter.all false
set_option maxRecDepth 100000
set_option maxHeartbeats 4000000
/-! ### exceptions, over the heap: calls that may raise, defs that run while one is handled, a caught one as a thing -/
namespace Z
open PySem PySem.Spec PyProof.Rows L2 L2H
/-! calls; what a callee lets out is told with the slots -/
section
variable {X : Cx} {CX : CXT} {k j n : Nat} {f : Addr} {fd : FuncData} {ps ks : List Str} {sp : Sp} {dvs : List V} {ds : List Value} {x c ms : Str} {p pos apos : Pos} {e o : Expr} {es : List Expr} {kws : List Keyword} {te : TE} {t tk : TA} {g : List Value → List Value → List Value} {gV : List V → List V → List V} {W : WX}
theorem run_at {pins : List (Addr × Obj)} {σ : L2.St} {H : Hp} {s : Shared} {Q : VK} {E : XK} {us : List Value} {vs : List V} (F : FnOk X.prog X.w X.K X.mg X.base CX k f fd ps sp) (hr : Room k X.A) (hb : Binds X.K fd ps ds) (hd : Vals dvs ds) (hx : PassesAt CX X σ E)
    (I : Inv X pins σ H s) (r : Vals vs us) (h : sp (vs ++ dvs) H Q E) : wpAny (model X.prog X.w) X.A (call (.ref f) us) (EP X pins σ Q) X.xe s := by
  have rr : Vals (vs ++ dvs) (us ++ ds) := r.append hd
  have hn : (us ++ ds).length = ps.length := rr.length ▸ F.len _ _ _ _ h
  refine wpAny_call (codeAny_mono (F.run X.A X.stack s H ⟨us, []⟩ _ _ Q E hr I.env0 (hb s us I.kIn hn) rr h) fun z s' q => ?_)
  match z, q with
  | .error e, q => exact hx pins H s e s' I q
  | .ok (.ret _), q => exact I.after q
  | .ok .next, q => exact q.elim
  | .ok .brk, q => exact q.elim
  | .ok .cont, q => exact q.elim
theorem run_atN {pins : List (Addr × Obj)} {σ : L2.St} {H : Hp} {s : Shared} {Q : VK} {E : XK} {us ws : List Value} {vs zs : List V} (F : FnOk X.prog X.w X.K X.mg X.base CX k f fd ps sp) (hr : Room k X.A) (hb : KBn X.K fd ps n ks g gV) (hx : PassesAt CX X σ E)
    (I : Inv X pins σ H s) (r : Vals vs us) (rz : Vals zs ws) (l1 : vs.length = n) (l2 : zs.length = ks.length) (h : sp (gV vs zs) H Q E) : wpAny (model X.prog X.w) X.A (call (.ref f) us (ks.zip ws)) (EP X pins σ Q) X.xe s := by
  refine wpAny_call (codeAny_mono (F.run X.A X.stack s H ⟨us, ks.zip ws⟩ _ _ Q E hr I.env0 (hb.to s us ws I.kIn (r.length ▸ l1) (rz.length ▸ l2)) (hb.rel r rz) h) fun z s' q => ?_)
  match z, q with
  | .error e, q => exact hx pins H s e s' I q
  | .ok (.ret _), q => exact I.after q
  | .ok .next, q => exact q.elim
  | .ok .brk, q => exact q.elim
  | .ok .cont, q => exact q.elim
def tCallW (sp : Sp) (dvs : List V) (W : WX) (t : TA) : TE := fun σ H Q => t σ H fun vs H1 => sp (vs ++ dvs) H1 Q (WE W σ)
def tCallNW (n m : Nat) (sp : Sp) (gV : List V → List V → List V) (W : WX) (t tk : TA) : TE := fun σ H Q => t σ H fun vs H1 => tk σ H1 fun zs H2 => vs.length = n ∧ zs.length = m ∧ sp (gV vs zs) H2 Q (WE W σ)
def tMethW (C : Addr) (m : Str) (sp : Sp) (dvs : List V) (W : WX) (ta : TE) (t : TA) : TE := fun σ H Q => ta σ H fun x H1 => ∃ a dx fs, x = .ref a ∧ H1 a = some (.ins C dx fs) ∧ fs.lookup m = none ∧
  t σ H1 fun vs H2 => sp (x :: (vs ++ dvs)) H2 Q (WE W σ)
def tMethNW (C : Addr) (ms : Str) (n m : Nat) (sp : Sp) (gV : List V → List V → List V) (W : WX) (ta : TE) (t tk : TA) : TE := fun σ H Q => ta σ H fun x H1 => ∃ a dx fs, x = .ref a ∧ H1 a = some (.ins C dx fs) ∧ fs.lookup ms = none ∧
  t σ H1 fun vs H2 => tk σ H2 fun zs H3 => vs.length = n ∧ zs.length = m ∧ sp (gV (x :: vs) zs) H3 Q (WE W σ)
theorem pcW (h : Callee X.prog X.w X.K X.mg X.base CX k x sp dvs) (hr : Room j X.A) (hk : k ≤ j) (hx : ∀ σ, PassesAt CX X σ (WE W σ)) (hg : Gl X x) (ha : PA X (e :: es) t)
    (hdb : (x == ("__debug__" : Str)) = false := by decide) (he : starEach (e :: es) X.env = (false, eval e X.env) :: starEach es X.env := by rfl) (hpl : (backTo pos (starEach es X.env)).any (·.1) = false := by rfl) :
    PE X (.Call (.Name x p) (e :: es) [] pos) (tCallW sp dvs W t) := by
  obtain ⟨fd, ps, ds, F, hm, kp, b, d⟩ := h
  exact ⟨fun pins s σ H Q I h => wpAny_Call_Name_kw (ld_glob I hg hm (PySem.W.callWith_K (h₀ := X.base) I.ok.mod.kin kp (thn (ha.run pos pins s σ H _ I h) fun us s1 ⟨vs, H1, I1, r, q⟩ => ⟨I1.kIn, run_at F (hr.mono hk) b d (hx σ) I1 r q⟩) he hpl) hdb)⟩
theorem pckW (h : CalleeK X.prog X.w X.K X.mg X.base CX k x sp n ks gV) (hr : Room j X.A) (hk : k ≤ j) (hx : ∀ σ, PassesAt CX X σ (WE W σ)) (hg : Gl X x) (ha : PA X (e :: es) t) (hkw : PK X kws tk)
    (hall : (backToKw pos (keywordEach kws X.env)).all (·.1.isSome) = true := by rfl) (hks : (backToKw pos (keywordEach kws X.env)).filterMap (·.1) = ks := by rfl)
    (hdb : (x == ("__debug__" : Str)) = false := by decide) (he : starEach (e :: es) X.env = (false, eval e X.env) :: starEach es X.env := by rfl)
    (hpl : ((backTo pos (starEach (e :: es) X.env)).any (·.1) || (backToKw pos (keywordEach kws X.env)).any (·.1.isNone)) = false := by rfl) :
    PE X (.Call (.Name x p) (e :: es) kws pos) (tCallNW n ks.length sp gV W t tk) := by
  obtain ⟨fd, ps, g, F, hm, kp, hb⟩ := h
  refine ⟨fun pins s σ H Q I h => wpAny_Call_Name_kw (ld_glob I hg hm ?_ hdb)⟩
  refine PySem.W.callWith_KW (h₀ := X.base) I.ok.mod.kin kp hall (thn (ha.run pos pins s σ H _ I h) fun us s1 ⟨vs, H1, I1, r, q⟩ => ?_) hpl he
  refine thn (hkw.run pos pins s1 σ H1 _ I1 q) fun ws s2 ⟨zs, H2, I2, rz, l1, l2, q2⟩ => ⟨I2.kIn, ?_⟩
  rw [hks]
  exact run_atN F (hr.mono hk) hb (hx σ) I2 r rz l1 l2 q2
theorem pmtW {pl : Sem Bool} (h : MethC X.prog X.w X.K X.mg X.base CX k c ms sp dvs) (hr : Room j X.A) (hk : k ≤ j) (hx : ∀ σ, PassesAt CX X σ (WE W σ)) (ho : PE X o te) (ha : PA X (e :: es) t)
    (hst : starEach (e :: es) X.env = (false, eval e X.env) :: starEach es X.env := by rfl) (hpl : (backTo pos (starEach es X.env)).any (·.1) = false := by rfl)
    (ht : eval (.Call (.Attribute o ms apos) (e :: es) [] pos) X.env = (do
      let ov ← eval o X.env
      standAt apos.atName
      let (f, first) ← holding [ov] (getMethod ov ms pl)
      callWith pos f first (backTo pos (starEach (e :: es) X.env)) (backToKw pos (keywordEach [] X.env))) := by rfl) :
    PE X (.Call (.Attribute o ms apos) (e :: es) [] pos) (tMethW (He.ga X.K c) ms sp dvs W te t) := by
  obtain ⟨f, fd, ps, ds, cl, hm, F, b, d⟩ := h
  refine ⟨fun pins s σ H Q I h => PySem.W.methodCall_KW (pl := pl) (thn (ho.run pins s σ H _ I h) fun u s1 ⟨y, H1, I1, ry, a, dx, fs, ey, ea, l, q⟩ => ?_) ht⟩
  subst ey
  obtain rfl : u = Value.ref a := ry
  refine getmeth_ok I1 ea cl hm l (PySem.W.callWith_K (first := [.ref a]) (h₀ := X.base) I.ok.mod.kin hm.kp (thn (ha.run pos pins s1 σ H1 _ I1 q) fun us s2 ⟨vs, H2, I2, r, q2⟩ => ⟨I2.kIn, ?_⟩) hst hpl)
  exact run_at (us := .ref a :: us) (vs := .ref a :: vs) F (hr.mono hk) b d (hx σ) I2 (.cons rfl r) q2
theorem pmtkW {pl : Sem Bool} (h : MethK X.prog X.w X.K X.mg X.base CX k c ms sp n ks gV) (hr : Room j X.A) (hk : k ≤ j) (hx : ∀ σ, PassesAt CX X σ (WE W σ)) (ho : PE X o te) (ha : PA X (e :: es) t) (hkw : PK X kws tk)
    (hall : (backToKw pos (keywordEach kws X.env)).all (·.1.isSome) = true := by rfl) (hks : (backToKw pos (keywordEach kws X.env)).filterMap (·.1) = ks := by rfl)
    (hst : starEach (e :: es) X.env = (false, eval e X.env) :: starEach es X.env := by rfl)
    (hpl : ((backTo pos (starEach (e :: es) X.env)).any (·.1) || (backToKw pos (keywordEach kws X.env)).any (·.1.isNone)) = false := by rfl)
    (ht : eval (.Call (.Attribute o ms apos) (e :: es) kws pos) X.env = (do
      let ov ← eval o X.env
      standAt apos.atName
      let (f, first) ← holding [ov] (getMethod ov ms pl)
      callWith pos f first (backTo pos (starEach (e :: es) X.env)) (backToKw pos (keywordEach kws X.env))) := by rfl) :
    PE X (.Call (.Attribute o ms apos) (e :: es) kws pos) (tMethNW (He.ga X.K c) ms n ks.length sp gV W te t tk) := by
  obtain ⟨f, fd, ps, g, cl, hm, F, hb⟩ := h
  refine ⟨fun pins s σ H Q I h => PySem.W.methodCall_KW (pl := pl) (thn (ho.run pins s σ H _ I h) fun u s1 ⟨y, H1, I1, ry, a, dx, fs, ey, ea, l, q⟩ => ?_) ht⟩
  subst ey
  obtain rfl : u = Value.ref a := ry
  refine getmeth_ok I1 ea cl hm l (PySem.W.callWith_KW (first := [.ref a]) (h₀ := X.base) I.ok.mod.kin hm.kp hall (thn (ha.run pos pins s1 σ H1 _ I1 q) fun us s2 ⟨vs, H2, I2, r, q2⟩ => ?_) hpl hst)
  refine thn (hkw.run pos pins s2 σ H2 _ I2 q2) fun ws s3 ⟨zs, H3, I3, rz, l1, l2, q3⟩ => ⟨I3.kIn, ?_⟩
  rw [hks]
  exact run_atN (us := .ref a :: us) (vs := .ref a :: vs) F (hr.mono hk) hb (hx σ) I3 (.cons rfl r) rz (congrArg (· + 1) l1) l2 q3
end
end Z
namespace Z
open PySem PySem.Spec PyProof.Rows L2 L2H
/-! defs that run while an exception is handled, too: nothing in them asks whether one is -/
structure FnC (P : Program) (w : World) (K : PySem.W.Frag) (mg : Str → Option Value) (base : Heap) (CX : CXT) (k : Nat) (f : Addr) (fd : FuncData) (ps : List Str) (sp : Sp) : Prop where
  len : ∀ vs H Q E, sp vs H Q E → vs.length = ps.length
  run : ∀ (A : Around) (outer : List Env) (s : Shared) (H : Hp) (args : Args) (us : List Value) (vs : List V) (Q : VK) (E : XK), RoomH k A → Env0 P w K mg base A outer s H → BindsTo s fd args (ps.zip us) → Vals vs us → sp vs H Q E →
    codeAny (model P w) A (.call (.ref f) args) (CR CX outer P w H s Q E) s
theorem FnC.ok {P : Program} {w : World} {K : PySem.W.Frag} {mg : Str → Option Value} {base : Heap} {CX : CXT} {k : Nat} {f : Addr} {fd : FuncData} {ps : List Str} {sp : Sp} (F : FnC P w K mg base CX k f fd ps sp) : FnOk P w K mg base CX k f fd ps sp :=
  ⟨F.len, fun A outer s H args us vs Q E hr => F.run A outer s H args us vs Q E (roomH_of hr)⟩
theorem FnC.imp {P : Program} {w : World} {K : PySem.W.Frag} {mg : Str → Option Value} {base : Heap} {CX : CXT} {k : Nat} {f : Addr} {fd : FuncData} {ps : List Str} {sp sp' : Sp} (F : FnC P w K mg base CX k f fd ps sp)
    (h : ∀ vs H Q E, sp' vs H Q E → sp vs H Q E) : FnC P w K mg base CX k f fd ps sp' :=
  ⟨fun vs H Q E q => F.len vs H Q E (h _ _ _ _ q), fun A outer s H args us vs Q E hr he hb hv hs => F.run A outer s H args us vs Q E hr he hb hv (h _ _ _ _ hs)⟩
def cxC (CX : CXT) (P : Program) (w : World) (K : PySem.W.Frag) (mg : Str → Option Value) (base : Heap) (N : List Str) (qual : Str) (scope : Scope) (f : Addr) (cd : Value) (A : Around) (outer : List Env) (s : Shared) (H : Hp) (E : XK) : Cx :=
  { cxOf CX P w K mg base N qual scope f cd A outer s H E with calm := false }
theorem start_c {CX : CXT} {P : Program} {w : World} {K : PySem.W.Frag} {mg : Str → Option Value} {base : Heap} {N ps : List Str} {qual : Str} {scope : Scope} {f : Addr} {cd : Value} {A : Around} {outer : List Env} {s s1 : Shared} {H : Hp} {E : XK} {us : List Value} {vs : List V}
    (S : FnScope N ps scope) (e0 : Env0 P w K mg base A outer s H) (hl : vs.length = ps.length) (r : Vals vs us)
    (x : InCallC s s.heap.objs.size (bindL (envOfC qual scope s.heap.objs.size f cd).kindOf (ps.zip us) fun _ => none) (cellsFrom (s.heap.objs.size + 1) scope.names []) (bindC (envOfC qual scope s.heap.objs.size f cd).kindOf (ps.zip us) fun _ => none) s1) :
    Inv (cxC CX P w K mg base N qual scope f cd A outer s H E) [] (L2.start N vs) H s1 := by
  have e1 : Env0 P w K mg base ({ A with handled := none } : Around) outer s H := ⟨e0.frames, e0.mod, e0.bs, e0.bsz, e0.funs, e0.frf, e0.hok, e0.bare⟩
  have I := inv_start (CX := CX) (cd := cd) (f := f) (qual := qual) (E := E) S (show ({ A with handled := none } : Around).handled = none from rfl) e1 hl r x
  exact ⟨⟨I.ok.mod, I.ok.kind, I.ok.glob, I.ok.blt, I.ok.above, I.ok.inj, I.ok.has, I.ok.cab, (fun z => absurd (show false = true from z) Bool.false_ne_true), I.ok.frames, I.ok.stk, I.ok.exf, I.ok.bs, I.ok.bsz, I.ok.noex, I.ok.exfs, I.ok.funs, I.ok.frf⟩,
    I.os, I.bare, I.base, I.loc, I.cell, I.free, I.freeC, I.pin, I.hok, I.len⟩
theorem fn_c {CX : CXT} {P : Program} {w : World} {K : PySem.W.Frag} {mg : Str → Option Value} {base : Heap} {k : Nat} {f : Addr} {x qual : Str} {params : Arguments} {body : List Stmt} {scope : Scope} {dvs : List V} {kws : List (Str × V)} {fd : FuncData} {N ps : List Str} {sp : Sp}
    (F : FunD K x qual params body scope dvs kws f fd) (S : FnScope N ps scope) (len : ∀ vs H Q E, sp vs H Q E → vs.length = ps.length)
    (hbody : ∀ (cdv : Value) (A : Around) (outer : List Env) (s : Shared) (H : Hp) (vs : List V) (Q : VK) (E : XK), RoomH k (A.deeper (envOfC qual scope s.heap.objs.size f cdv)) → sp vs H Q E →
      ∃ t, PSs (cxC CX P w K mg base N qual scope f cdv A outer s H E) body t ∧ t { nx := fun _ H' => Q .non H', rt := Q } (L2.start N vs) H) : FnC P w K mg base CX (k + 1) f fd ps sp := by
  obtain ⟨oc, od, dV, kV, doc, pm, an, cdv, ct, osl, rfl, lk, hcd, _, _⟩ := F.ex
  refine ⟨len, fun A outer s H args us vs Q E hr e0 hb r hsp => ?_⟩
  have hl := len _ _ _ _ hsp
  have kin : K.In s.heap := e0.mod.kin.keeps fun b o q => (e0.bs b o q).1
  have lim : s.heap.NoLimit := e0.mod.nolimit.keeps fun b o q => (e0.bs b o q).1
  have par : ∀ y ∈ ps.zip us, scope.names.lookup y.1 = some .local ∨ (scope.names.lookup y.1 = some .cell ∧ ((cellsFrom (s.heap.objs.size + 1) scope.names []).lookup y.1).isSome = true) := fun y hy =>
    (S.par y.1 (List.of_mem_zip hy).1).elim .inl fun q => .inr ⟨q, PySem.W.cellsFrom_some _ _ _ (.inl q)⟩
  refine codeAny_call_function hr.depth (kin _ _ lk) rfl S.co S.gen rfl (PySem.W.codeRec_of kin hcd) (hb _ _ _ _ (wpAny_newFunctionEnv_cells S.kind par fun env he s1 y => ?_))
  subst he
  obtain ⟨t, ht, hq⟩ := hbody cdv A outer s H vs Q E (hr.deeper _) hsp
  refine ⟨lim.keeps y.toInCall.keep, codeAny_func (wpAny_mono (ht.run [] s1 (L2.start N vs) H _ (start_c S e0 hl r y) hq) (fun fl s' hs => ?_) fun _ _ z => z)⟩
  have fin : ∀ {σ' : L2.St} {H' : Hp} {v : V} {u : Value}, Inv (cxC CX P w K mg base N qual scope f cdv A outer s H E) [] σ' H' s' → RelV v u → Q v H' → CE outer P w H s Q u s' := fun J rv q => ⟨_, _, J.os, J.bare, J.base, J.hok, rv, q⟩
  match fl, hs with
  | .ret _, ⟨_, _, _, J, rv, q⟩ => exact fin J rv q
  | .next, ⟨_, _, J, q⟩ => exact fin (v := V.non) (u := Value.none) J rfl q
  | .brk, ⟨_, _, _, q⟩ => exact q.elim
  | .cont, ⟨_, _, _, q⟩ => exact q.elim
end Z
namespace Z
open PySem PySem.Spec PyProof.Rows L2 L2H
/-! an exception that was caught, as a thing of the heap -/
/-- at a: an exception of the class cls, its dict d -/
def exv (cls : Value) (d : Option Addr) (a : Addr) : HO := .ext fun h => ∃ (oe : Obj) (vs : Array Value), h.get? a = some oe ∧ Zc cls d oe ∧ oe.data = .fields vs
theorem exv_ok {P : Program} {w : World} {H : Hp} {h : Heap} {a : Addr} {cls : Value} {d : Option Addr} {oe : Obj} {vs : Array Value} (e : h.get? a = some oe) (z : Zc cls d oe) (hd : oe.data = .fields vs) : ObjOk P w H h a (exv cls d a) :=
  ⟨⟨oe, vs, e, z, hd⟩, ⟨oe, e⟩, fun _ _ ⟨o, v, q, r⟩ k => ⟨o, v, k o q, r⟩⟩
theorem exv_at {P : Program} {w : World} {H : Hp} {h : Heap} {a : Addr} {cls : Value} {d : Option Addr} (hok : HOk P w H h) (e : H a = some (exv cls d a)) : ∃ (oe : Obj) (vs : Array Value), h.get? a = some oe ∧ Zc cls d oe ∧ oe.data = .fields vs := by
  have x : ObjOk P w H h a (.ext fun h => ∃ (oe : Obj) (vs : Array Value), h.get? a = some oe ∧ Zc cls d oe ∧ oe.data = .fields vs) := hok a _ e
  exact x.1
/-- what a class of exceptions says -/
structure ExK (K : PySem.W.Frag) (C : Addr) : Prop where
  xf : XfC K C
  cl : (PySem.W.clsIn K C).isSome = true
  ha : PySem.W.findIn K (.ref C) "__class__" = some (some (.builtin "object.__class__"))
  hn : PySem.W.specialIn K (.builtin "object.__class__") "__get__" = some (some (.builtin "getset_descriptor.__get__"))
  ht : PySem.W.takesIn K (.builtin "object.__class__") = some true
  hm : PySem.W.mroIn K C (.type "object") = some true
theorem exkB_ok {K : PySem.W.Frag} {x : Str} (h : exkB K x = true) : ExK K (He.ga K x) := by
  obtain ⟨h1, h⟩ := He.ba h
  obtain ⟨h2, h⟩ := He.ba h
  obtain ⟨h3, h⟩ := He.ba h
  obtain ⟨h4, h⟩ := He.ba h
  obtain ⟨h5, h6⟩ := He.ba h
  exact ⟨xfB_ok h1, h2, of_decide_eq_true h3, of_decide_eq_true h4, of_decide_eq_true h5, of_decide_eq_true h6⟩
/-- one that says how it is made, over ValueError -/
theorem oexB_ok {K : PySem.W.Frag} {x : Str} (h : oexB K x = true) : OexC K (He.ga K x) := by
  obtain ⟨h0, h⟩ := He.ba h
  obtain ⟨h1, h⟩ := He.ba h
  obtain ⟨h2, h⟩ := He.ba h
  obtain ⟨h3, h4⟩ := He.ba h
  refine ⟨?_, of_decide_eq_true h1, of_decide_eq_true h2, of_decide_eq_true h3, h4⟩
  split at h0
  · rename_i dd cd sl ho
    split at h0
    · rename_i C' bm k0 k1 k2 k3 n k5 hm hs
      obtain ⟨e1, h0⟩ := He.ba h0
      obtain ⟨e2, h0⟩ := He.ba h0
      obtain ⟨e3, h0⟩ := He.ba h0
      obtain ⟨e4, e5⟩ := He.ba h0
      obtain ⟨nm, bs, mro, ns, qn, hd, sn, sub, ab, col, del⟩ := cd
      have e1' : C' = He.ga K x := of_decide_eq_true e1
      have e2' : n = "ValueError.__new__" := of_decide_eq_true e2
      dsimp only at hm e3 e4
      have e3' : del = false := by simpa using e3
      subst hm e3' e4
      have hsl : sl = #[k0, k1, k2, k3, some (.builtin n), k5] := by
        obtain ⟨l⟩ := sl
        simp only at hs
        rw [hs]
      subst hsl e2' e1'
      exact ⟨nm, qn, ns, bs, bm, sn, sub, ab, col, dd, k0, k1, k2, k3, k5, ho, e5⟩
    · cases h0
  · cases h0
/-- e.f of a caught one -/
def tXfV (K : PySem.W.Frag) (f : Str) (te : TE) : TE := fun σ H Q => te σ H fun x H1 => ∃ (a C dd : Addr) (fs : List (Str × V)) (v : V), x = .ref a ∧ H1 a = some (exv (.ref C) (some dd) a) ∧ ExK K C ∧ PySem.W.findIn K (.ref C) f = some none ∧ H1 dd = some (.xd fs) ∧ fs.lookup f = some v ∧ Q v H1
section
variable {X : Cx} {e : Expr} {te : TE} {f : Str} {pos : Pos}
theorem exv_inst {pins : List (Addr × Obj)} {σ : L2.St} {H : Hp} {s : Shared} {a C : Addr} {d : Option Addr} (I : Inv X pins σ H s) (ea : H a = some (exv (.ref C) d a)) (ed : ∀ dd, d = some dd → ∃ fs, H dd = some (.xd fs)) : ∃ (oe : Obj) (od : Option Obj), PySem.W.InstAt s.heap a oe C od := by
  obtain ⟨oe, vs, ho, hz, hd⟩ := exv_at I.hok ea
  have nc : PySem.W.notCls oe := by unfold PySem.W.notCls; rw [hd] <;> rfl
  cases d with
  | none => exact ⟨oe, none, ho, hz.1, nc, by rw [hz.2] <;> trivial⟩
  | some dd =>
    obtain ⟨fs, e⟩ := ed dd rfl
    have hx : ObjOk X.prog X.w H s.heap dd (.xd fs) := I.hok dd _ e
    obtain ⟨mA, hns, hr⟩ := hx
    obtain ⟨od, hod, hl⟩ := lookIn_ns hns
    exact ⟨oe, some od, ho, hz.1, nc, by rw [hz.2]; exact hod⟩
theorem pe_xfV (he : PE X e te) (hb : attributeBase e f X.env (eval e X.env) = eval e X.env := by rfl) : PE X (.Attribute e f pos) (tXfV X.K f te) := by
  refine ⟨fun pins s σ H Q I h => attr_of hb (thn (he.run pins s σ H _ I h) fun u s1 hh => ?_)⟩
  obtain ⟨x, H1, I1, rx, a, C, dd, fs, v, ex, ea, T, hno, ed, l, q⟩ := hh
  subst ex
  obtain rfl : u = Value.ref a := rx
  obtain ⟨oe, vs, ho, hz, hd⟩ := exv_at I1.hok ea
  have hx : ObjOk X.prog X.w H1 s1.heap dd (.xd fs) := I1.hok dd _ ed
  obtain ⟨mA, hns, hr⟩ := hx
  obtain ⟨od, hod, hl⟩ := lookIn_ns hns
  obtain ⟨u, hu, ru⟩ := RelO.some_of (v := v) (o := mA f) (by rw [← l]; exact hr f)
  have J : PySem.W.InstAt s1.heap a oe C (some od) := ⟨ho, hz.1, by unfold PySem.W.notCls; rw [hd] <;> rfl, by rw [hz.2]; exact hod⟩
  exact PySem.HandSPX.exc_get I1.kIn J T.xf.ga T.xf.gg T.xf.exC (PySem.W.findObj_own T.xf.hdC hno rfl (by rw [hl, hu])) (handed_of ru) ⟨v, H1, I1.tok _, ru, q⟩
/-- isinstance(e, c) -/
def rIsV (K : PySem.W.Frag) : List V → Hp → VK → Prop := fun xs H Q => ∃ (a C : Addr) (d : Option Addr) (c : V) (cv : Value) (b : Bool), xs = [.ref a, c] ∧ H a = some (exv (.ref C) d a) ∧ (∀ dd, d = some dd → ∃ fs, H dd = some (.xd fs)) ∧ ExK K C ∧ (∀ u, RelV c u → u = cv) ∧ PySem.W.kitOne K (.ref C) cv = some b ∧ Q (.bl b) H
theorem call_isV : CallR X (.builtin "isinstance") (rIsV X.K) := by
  intro pins s σ H xs us Q I r h
  obtain ⟨a, C, d, c, cv, b, rfl, ea, ed, T, hcv, e, q⟩ := h
  obtain ⟨u1, u2, rfl, r1, r2⟩ : ∃ u1 u2, us = [u1, u2] ∧ RelV (.ref a) u1 ∧ RelV c u2 := by
    cases r with
    | cons r1 r =>
      cases r with
      | cons r2 r => cases r; exact ⟨_, _, rfl, r1, r2⟩
  obtain rfl : u1 = Value.ref a := r1
  obtain rfl := hcv _ r2
  obtain ⟨oe, od, J⟩ := exv_inst I ea ed
  exact PySem.W.kia_one (PySem.W.kitx_exc T.cl T.xf.ga T.xf.gg T.xf.exC T.ha T.hn T.ht T.hm) I.kIn J e (fun z => nomatch z) fun tk => ⟨.bl b, H, I.kept (t' := tk) fun _ _ z => z, rfl, q⟩
end
end Z
namespace Z
open PySem PySem.Spec PyProof.Rows L2 L2H
/-! try: what is caught stands in the heap, under its name or none -/
abbrev Hd := Value × Option Nat × (Addr → Value → Option Addr → TS)
def outS (oi : Option Nat) (D : Ends) : Ends := match oi with
  | none => D
  | some i => { nx := fun σ H => D.nx (σ.set i none) H, rt := D.rt, bk := fun σ H => D.bk (σ.set i none) H, ct := fun σ H => D.ct (σ.set i none) H }
def inS (oi : Option Nat) (a : Addr) (σ : L2.St) : L2.St := match oi with
  | none => σ
  | some i => σ.set i (some (.ref a))
def wCl (K : PySem.W.Frag) (Wout : WX) (D : Ends) : List Hd → WX
  | [] => Wout
  | (c, oi, ts) :: r => fun cls d σ H => ∃ b, PySem.W.exmOne K cls c = some b ∧ (b = true → ∀ a, H a = none → ts a cls d (outS oi D) (inS oi a σ) (L2.upd H a (exv cls d a))) ∧ (b = false → wCl K Wout D r cls d σ H)
inductive HdE (X : Cx) : List ExceptHandler → List Hd → Prop
  | nil : HdE X [] []
  | one {x : Str} {c : Value} {ts : Addr → Value → Option Addr → TS} {b₀ : Stmt} {suite : List Stmt} {np pos' : Pos} {hds : List ExceptHandler} {l : List Hd} (hc : Names X x c)
      (hsu : ∀ (a : Addr) (cls : Value) (d : Option Addr) (pn : List (Addr × Obj)), PSs (X.suite a pn) (b₀ :: suite) (ts a cls d)) (r : HdE X hds l) : HdE X (.ExceptHandler (some (.Name x np)) none (b₀ :: suite) pos' :: hds) ((c, none, ts) :: l)
  | named {x n : Str} {i : Nat} {c : Value} {ts : Addr → Value → Option Addr → TS} {b₀ : Stmt} {suite : List Stmt} {np pos' : Pos} {hds : List ExceptHandler} {l : List Hd} (hc : Names X x c) (hN : X.N.Nodup) (hi : X.N[i]? = some n) (hl : X.env.kindOf n = some .local)
      (hsu : ∀ (a : Addr) (cls : Value) (d : Option Addr) (pn : List (Addr × Obj)), PSs (X.suite a pn) (b₀ :: suite) (ts a cls d)) (r : HdE X hds l) : HdE X (.ExceptHandler (some (.Name x np)) (some n) (b₀ :: suite) pos' :: hds) ((c, some i, ts) :: l)
section
variable {X : Cx} {pins : List (Addr × Obj)} {σ : L2.St} {H : Hp} {s : Shared} {a : Addr} {cls : Value} {d : Option Addr} {oe : Obj} {vs : Array Value}
/-- a caught exception is taken in -/
theorem taken (J : Inv X pins σ H s) (na : H a = none) (new : a ∉ X.ex → X.s_0.heap.get? a = none) (np : ∀ p ∈ X.pn ++ pins, p.1 ≠ a) (nL : a ≠ X.env.locals) (ho : s.heap.get? a = some oe) (hz : Zc cls d oe) (hd : oe.data = .fields vs) :
    Inv (X.suite a (X.pn ++ pins)) [] σ (L2.upd H a (exv cls d a)) s := by
  have ne : ∀ {b : Addr} {o : HO}, H b = some o → b ≠ a := fun e z => by rw [z, na] at e; cases e
  refine ⟨J.ok.suite _ _, J.os, J.bare, ⟨J.base.keep, J.base.slot, fun b o e n hx => ?_, J.base.there, fun b xs e => ?_, fun b o u e => ?_, fun b ps e => ?_⟩, J.loc, J.cell, ?_, fun y c e => ?_, fun p hp => ?_, fun b o e => ?_, J.len⟩
  · have hb : b ≠ a := fun z => by
      have e' : X.s_0.heap.get? b = some o := e
      rw [z, new (z ▸ hx)] at e'; cases e'
    rw [upd_ne hb]; exact J.base.free b o e n hx
  · have q := J.base.tups b xs e
    rw [upd_ne (ne q)]; exact q
  · have q := J.base.frzs b o u e
    rw [upd_ne (ne q)]; exact q
  · obtain ⟨more, q⟩ := J.base.tbls b ps e
    exact ⟨more, by rw [upd_ne (ne q)]; exact q⟩
  · show L2.upd H a _ X.env.locals = none
    rw [upd_ne (Ne.symm nL)]; exact J.free
  · obtain ⟨v, z⟩ := J.cell y c e
    have hc : c ≠ a := fun q => by
      obtain ⟨oc, z1, z2⟩ := z
      rw [q, ho] at z1
      cases z1
      rw [hd] at z2
      cases z2
    rw [upd_ne hc]; exact J.freeC y c e
  · have hp' : p ∈ X.pn ++ pins := by
      have z : p ∈ (X.pn ++ pins) ++ [] := hp
      rwa [List.append_nil] at z
    obtain ⟨q1, q2, q3, q4, q5⟩ := J.pin p hp'
    exact ⟨q1, by rw [upd_ne (np p hp')]; exact q2, q3, q4, q5⟩
  · by_cases hb : b = a
    · subst hb
      rw [upd_same] at e
      cases e
      exact exv_ok ho hz hd
    · rw [upd_ne hb] at e
      refine (J.hok b o e).stay (fun _ _ _ z => z) (fun c hc => ?_) fun c xs hc => ?_
      · rw [upd_ne (ne hc)]; exact hc
      · rw [upd_ne (ne hc)]; exact hc
theorem left_ {pn' : List (Addr × Obj)} (I : Inv (X.suite a (X.pn ++ pins)) pn' σ H s) (ok : X.Ok) : Inv X pins σ H s :=
  ⟨ok, I.os, I.bare, I.base, I.loc, I.cell, I.free, I.freeC, fun p hp => I.pin p (List.mem_append_left _ hp), I.hok, I.len⟩
end
end Z
namespace Z
open PySem PySem.Spec PyProof.Rows L2 L2H
section
variable {X : Cx} {body : List Stmt} {h₀ : ExceptHandler} {hds : List ExceptHandler} {l : List Hd} {pos : Pos} {tb : WX → TS} {Wout : WX}
/-- one clause after another, over a state in which the exception at a has landed -/
theorem clauses (hs : X.stack = X.env :: X.outer) (hf : X.env.frame = some X.env.locals) (tk : Takes X Wout) {pins : List (Addr × Obj)} {σ : L2.St} {H : Hp} {D : Ends} {a : Addr} {B : Heap} {sI s3 : Shared} {cls : Value} {d : Option Addr}
    (J : Inv X pins σ H sI) (nb : ∀ b o, sI.heap.get? b = some o → b ∉ frs X.stack → B.get? b = some o) (up : sI.heap.UpToSlots s3.heap) (os : s3.os = sI.os) (ag : AllBare s3.gens) (na : H a = none)
    (fl : HandSPX.FlyingZ B (X.env :: X.outer) a (Zc cls d) s3.heap) :
    ∀ {hds : List ExceptHandler} {l : List Hd}, HdE X hds l → wCl X.K Wout D l cls d σ H → wpAny (model X.prog X.w) X.A (handleBy (.ref a) X.env hds) (SP X pins D) X.xe s3 := by
  have hfr : X.A.frames = some (X.env :: X.outer) := by rw [J.ok.frames, hs]
  have out : ∀ {h : Heap} {o : Obj} {us : Array Value}, h.FunFrames B (X.env :: X.outer) → h.get? a = some o → o.data = .fields us → a ∉ frs (X.env :: X.outer) := fun ff e q hm => by
    obtain ⟨_, o', e', hn⟩ := ff.mem hm
    rw [e] at e'
    cases e'
    exact hn _ q
  obtain ⟨oe, us, ho, hz, hd⟩ := fl.there
  have nfr : a ∉ frs X.stack := by rw [hs]; exact out fl.2.2.1 ho hd
  have nL : a ≠ X.env.locals := fun z => nfr (List.mem_filterMap.mpr ⟨X.env, by rw [hs]; exact List.mem_cons_self, by rw [hf, z]⟩)
  have nI : sI.heap.get? a = none := by
    cases q : sI.heap.get? a with
    | none => rfl
    | some o =>
      have := nb a o q nfr
      rw [fl.2.1] at this
      cases this
  have n0 : a ∉ X.ex → X.s_0.heap.get? a = none := fun hx => by
    cases q : X.s_0.heap.get? a with
    | none => rfl
    | some o =>
      obtain ⟨o', e'⟩ := J.base.there a o q hx
      rw [nI] at e'
      cases e'
  have np : ∀ p ∈ X.pn ++ pins, p.1 ≠ a := fun p hp z => by
    have := (J.pin p hp).1
    rw [z, nI] at this
    cases this
  have land : ∀ {h : Heap}, HandSPX.FlyingZ B (X.env :: X.outer) a (Zc cls d) h → s3.heap.UpToSlots h → Inv X pins σ H { s3 with heap := h } ∧ Inv (X.suite a (X.pn ++ pins)) [] σ (L2.upd H a (exv cls d a)) { s3 with heap := h } := fun {h} fl' up' => by
    have J' : Inv X pins σ H { s3 with heap := h } := J.landed nb fl'.1 (up.trans up') os ag
    obtain ⟨o', us', ho', hz', hd'⟩ := fl'.there
    exact ⟨J', taken J' na n0 np nL ho' hz' hd'⟩
  have S3 := (land fl (Heap.UpToSlots.refl _)).2
  intro hds l hk
  have LT : PySem.W.Looks (model X.prog X.w) s3.heap (typeOf (.ref a)) cls := fun A Q E s k q => wpAny_typeOf_ref (k _ _ ho) (by rw [hz.1]; exact q)
  have J3 := (land fl (Heap.UpToSlots.refl _)).1
  have ask : ∀ {x : Str} {c : Value} {np' : Pos}, Names X x c → ∀ {Q : Value → Shared → Prop} {E : Value → Shared → Prop}, Q c s3 → wpAny (model X.prog X.w) (X.A.mark (some (.ref a))) (eval (.Name x np') X.env) Q E s3 := by
    intro x c np' hc Q E q
    obtain ⟨hg, hdb, hm | ⟨hm, hv, hn⟩⟩ := hc
    · exact ld_glob (X := X.suite a (X.pn ++ pins)) S3 hg hm q hdb
    · exact ld_blt (X := X.suite a (X.pn ++ pins)) S3 hg hm hv q hn hdb
  induction hk with
  | nil =>
    intro w
    obtain ⟨k1, k2, k3, o1, us1, T, oT, ts1, he, z1, hd1, h1, hr⟩ := id fl
    refine wpAny_handleBy_nil ?_
    unfold PySem.passOn
    refine wpAny_bind (wpAny_field he hd1 h1 ?_)
    rw [if_neg (show ¬ ((Value.ref T == Value.none) = true) from by simp)]
    have fin : wpAny (model X.prog X.w) X.A (setFlight (.ref a) X.env.frame) (fun _ s4 => wpAny (model X.prog X.w) X.A (throw (.ref a) : Sem Flow) (SP X pins D) X.xe s4) X.xe s3 := by
      rw [hf]
      exact HandSPX.setFlight_upZ fl fun h4 hh up4 => wpAny_throw (tk _ _ ⟨a, B, sI, pins, σ, H, cls, d, rfl, J, nb, up.trans up4, .inr (.inr (by rw [hs]; exact hh)), na, os, ag, w⟩)
    first
      | exact wpAny_bind (wpAny_pure (wpAny_bind fin))
      | exact wpAny_bind fin
  | @one x c ts b₀ suite np1 pos' hds2 l2 hc hsu r ih =>
    rintro ⟨b, hb, yes, no⟩
    refine wpAny_handleBy_cons (codeAny_handlers_test (ask hc ((PySem.W.exm_one (M := model X.prog X.w) J3.kIn LT hb).here ?_))) (by intro q; cases q)
    match b, yes, no with
    | false, _, no => exact ih (no rfl)
    | true, yes, _ =>
      refine codeAny_handlers_suite (HandSPX.lands_againZ fl fun h4 fl4 up4 => ?_)
      refine wpAny_mono ((hsu a cls d (X.pn ++ pins)).run [] _ _ _ _ (land fl4 up4).2 (yes rfl a na)) (fun f s6 q => ?_) fun _ _ z => False.elim z
      match f, q with
      | .next, ⟨_, _, I, q⟩ => exact ⟨_, _, left_ I J.ok, q⟩
      | .brk, ⟨_, _, I, q⟩ => exact ⟨_, _, left_ I J.ok, q⟩
      | .cont, ⟨_, _, I, q⟩ => exact ⟨_, _, left_ I J.ok, q⟩
      | .ret _, ⟨_, _, _, I, rv, q⟩ => exact ⟨_, _, _, left_ I J.ok, rv, q⟩
  | @named x n i c ts b₀ suite np1 pos' hds2 l2 hc hN hi hl hsu r ih =>
    rintro ⟨b, hb, yes, no⟩
    refine wpAny_handleBy_cons (codeAny_handlers_test (ask hc ((PySem.W.exm_one (M := model X.prog X.w) J3.kIn LT hb).here ?_))) (by intro q; cases q)
    match b, yes, no with
    | false, _, no => exact ih (no rfl)
    | true, yes, _ =>
      refine codeAny_handlers_suite_as (HandSPX.lands_againZ fl fun h4 fl4 up4 => ?_)
      refine store_ok (X := X.suite a (X.pn ++ pins)) (v := .ref a) (land fl4 up4).2 hN hi (.inl hl) rfl (fun s5 S5 => ?_) (.inr hl)
      have gone : ∀ {σ6 : L2.St} {H6 : Hp} {s6 : Shared} {Q : Shared → Prop}, Inv (X.suite a (X.pn ++ pins)) [] σ6 H6 s6 → (∀ s7, Inv X pins (σ6.set i none) H6 s7 → Q s7) →
          wpAny (model X.prog X.w) X.A (do bindName X.env n .none; unbindBehindTheSuite X.env n pos') (fun _ s7 => Q s7) X.xe s6 := fun S6 hq => gone_ok (left_ S6 J.ok) hN hi hl hq
      refine wpAny_mono ((hsu a cls d (X.pn ++ pins)).run [] s5 _ _ _ S5 (yes rfl a na)) (fun f s6 q => ?_) fun _ _ z => False.elim z
      match f, q with
      | .next, ⟨_, _, I, q⟩ => exact gone I fun s7 J7 => ⟨_, _, J7, q⟩
      | .brk, ⟨_, _, I, q⟩ => exact gone I fun s7 J7 => ⟨_, _, J7, q⟩
      | .cont, ⟨_, _, I, q⟩ => exact gone I fun s7 J7 => ⟨_, _, J7, q⟩
      | .ret _, ⟨_, _, _, I, rv, q⟩ => exact gone I fun s7 J7 => ⟨_, _, _, J7, rv, q⟩
theorem ps_tryE (hs : X.stack = X.env :: X.outer) (hf : X.env.frame = some X.env.locals) (tk : Takes X Wout)
    (hb : ∀ (W : WX) (pn : List (Addr × Obj)) (xe : Value → Shared → Prop), Takes (X.tr pn xe) W → PassesOwn (model X.prog X.w) X.A X.env xe → PSs (X.tr pn xe) body (tb W))
    (hh : HdE X (h₀ :: hds) l) : PS X (.Try body (h₀ :: hds) [] [] pos) (fun D σ H => tb (wCl X.K Wout D l) D σ H) := by
  refine ⟨fun pins s σ H D I h => wpAny_Try_except (wpAny_mono ((hb (wCl X.K Wout D l) (X.pn ++ pins) (fun e s1 => wpAny (model X.prog X.w) X.A (noteFrame e X.env) (fun _ s2 => wpAny (model X.prog X.w) X.A (setFlight e none) (fun _ s3 =>
    wpAny (model X.prog X.w) X.A (handleBy e X.env (h₀ :: hds)) (SP X pins D) X.xe s3) X.xe s2) X.xe s1) (fun u s1 xx => ?_) PassesOwn.looking).run [] s σ H D (I.toTry _) h) (fun f s1 q => ?_) fun _ _ z => z)⟩
  · obtain ⟨a, B, sI, pins', σ', H', cls, d, rfl, J, nb, up, sky, na, os, ag, w⟩ := xx
    have sky' : Sky B (X.env :: X.outer) a (Zc cls d) X.env.locals s1.heap := by rw [← hs]; exact sky
    show wpAny (model X.prog X.w) X.A (noteFrame (.ref a) X.env) _ _ _
    exact Sky.land Zc.steady (by rw [I.ok.frames, hs]) hf sky' fun h3 fl up3 => clauses (s3 := { s1 with heap := h3 }) hs hf tk (J.ofTry I.ok) nb (up.trans up3) os ag na fl hh w
  · match f, q with
    | .next, ⟨_, _, K1, q⟩ => exact wpAny_execs_nil ⟨_, _, K1.ofTry I.ok, q⟩
    | .brk, ⟨_, _, K1, q⟩ => exact ⟨_, _, K1.ofTry I.ok, q⟩
    | .cont, ⟨_, _, K1, q⟩ => exact ⟨_, _, K1.ofTry I.ok, q⟩
    | .ret _, ⟨_, _, _, K1, rv, q⟩ => exact ⟨_, _, _, K1.ofTry I.ok, rv, q⟩
end
end Z

set_option Elab.async false
set_option linter.all false
set_option maxRecDepth 100000
set_option maxHeartbeats 4000000
/-! ### exceptions over trees -/
namespace Z
open PySem PySem.Spec PyProof.Rows L2 L2H
/-- an exception of a class of the text: the class's name, its fields, the last one first -/
structure DX where
  cls : Str
  fs : List (Str × D)
def RepX (K : PySem.W.Frag) (W : Wd) (cls : Value) (d : Option Addr) (x : DX) : Prop := cls = .ref (He.ga K x.cls) ∧ ∃ dd fs, d = some dd ∧ W.H dd = some (.xd fs) ∧ dd ∉ W.ws ∧ RepF K W fs x.fs
theorem RepX.mono {K : PySem.W.Frag} {W W' : Wd} {cls : Value} {d : Option Addr} {x : DX} (p : Pers W W') (h : RepX K W cls d x) : RepX K W' cls d x := by
  obtain ⟨e, dd, fs, h1, h2, h3, h4⟩ := h
  obtain ⟨q1, q2⟩ := p dd _ h2 h3
  exact ⟨e, dd, fs, h1, q1, q2, RepF.mono p h4⟩
abbrev ExD := DX → Sl → Cs → Prop
/-- what is wished of an exception, over the heap and over trees -/
def GX (K : PySem.W.Frag) [Gd K] (wx : WX) (wd : ExD) : Prop := ∀ W S C σ cls d x, Gd.ok K W → Mem K W C → Slo K W S σ → RepX K W cls d x → wd x S C → wx cls d σ W.H
/-- all that came of a world -/
@[reducible] def gdW (K : PySem.W.Frag) (W0 : Wd) : Gd K where
  ok W := Ext W0 { W with pv := W0.pv } ∧ ∃ l, W.pv = l ++ W0.pv
  ext := fun {W W'} h e => by
    obtain ⟨h, l, hl⟩ := h
    exact ⟨h.trans ⟨e.keep, e.there, e.wsn, e.wsk, e.wrn, rfl, e.as⟩, l, e.pv.trans hl⟩
  pv := fun {W b} h => by
    obtain ⟨h, l, hl⟩ := h
    exact ⟨h, b :: l, by show b :: W.pv = _; rw [hl]; rfl⟩
section
variable {K : PySem.W.Frag} {W W0 : Wd} {S : Sl} {C : Cs} {σ : L2.St}
theorem gdW_mem (h : (gdW K W0).ok W) (m : Mem K W C) : Mem K { W with pv := W0.pv } C := by
  obtain ⟨e, l, hl⟩ := h
  refine ⟨m.wrws, fun b hb => m.pvws b (by rw [hl]; exact List.mem_append_right _ hb), fun b hb z => m.dis b hb (by rw [hl]; exact List.mem_append_right _ z), m.dom, m.len, fun i dc a fp h1 h2 h3 => ?_, m.sep⟩
  obtain ⟨q1, q2⟩ := m.cell i dc a fp h1 h2 h3
  exact ⟨q1.pers (fun _ _ h n => ⟨h, n⟩) fun _ _ => rfl, q2⟩
theorem gdW_slo (h : (gdW K W0).ok W) (s : Slo K W S σ) : Slo K { W with pv := W0.pv } S σ := by
  obtain ⟨e, l, hl⟩ := h
  have pe : Pers W { W with pv := W0.pv } := fun _ _ h n => ⟨h, n⟩
  have np : ∀ b, b ∉ W.pv → b ∉ W0.pv := fun b hb z => hb (by rw [hl]; exact List.mem_append_right _ z)
  refine ⟨s.len, fun i x q => ?_⟩
  obtain ⟨v, h1, h2⟩ := s.get i x q
  refine ⟨v, h1, ?_⟩
  cases x with
  | of d => exact Rep.mono pe h2
  | cel i => exact h2
  | sub i => exact h2
  | bor l =>
    obtain ⟨a, us, e1, e2, e3, e4, e5⟩ := h2
    exact ⟨a, us, e1, e2, e3, np a e4, Reps.mono pe e5⟩
  | scr l =>
    obtain ⟨a, us, e1, e2, e5⟩ := h2
    refine ⟨a, us, e1, ?_, Reps.mono pe e5⟩
    rcases e2 with ⟨e2, e3, e4⟩ | e2
    · exact .inl ⟨e2, e3, np a e4⟩
    · exact .inr e2
theorem gdW_x {cls : Value} {d : Option Addr} {x : DX} (h : RepX K W cls d x) : RepX K { W with pv := W0.pv } cls d x := RepX.mono (W := W) (W' := { W with pv := W0.pv }) (fun _ _ h n => ⟨h, n⟩) h
end
section
variable {K : PySem.W.Frag} [Gd K] {S : Sl} {σ : L2.St}
theorem ret_world {W W' : Wd} {C C' C3 : Cs} {is : List Nat} (s : Sta K W S C σ) (nd : is.Nodup) (e : Ext (inW W C is) W') (m' : Mem K W' C') (hC3 : backs C is C' = some C3) :
    ∃ W2, W2.H = W'.H ∧ Ext W W2 ∧ Sta K W2 S C3 σ ∧ Pers W' W2 := by
  obtain ⟨b1, b2, b3⟩ := backs_ok nd hC3
  have hAs : ∀ (j : Nat) i p, is[j]? = some i → W.As[i]? = some p → W'.As[j]? = some p := fun j i p h1 h2 => by
    obtain ⟨mo, ha⟩ := e.as
    have := inW_at (C := C) h1 h2
    rw [ha, List.getElem?_append_left (List.getElem?_eq_some_iff.mp this).1]; exact this
  -- the written cells, there and back
  have wk : ∀ b ∈ W.ws, b ∈ W'.ws := fun b hb => by
    by_cases q : b ∈ (inW W C is).wr
    · obtain ⟨i, hi, hf⟩ := List.mem_flatMap.mp q
      obtain ⟨dc, a, fp, hc, lv, ha, hbf⟩ := mem_fpOf hf
      obtain ⟨j, hj, ej⟩ := List.getElem_of_mem hi
      have hij : is[j]? = some i := by rw [List.getElem?_eq_getElem hj, ej]
      obtain ⟨c0, c, c3, g1, g2, g3, g4, g5, g6⟩ := b3 j i hij
      exact m'.wrws b ((m'.cell j c a fp g3 (hAs j i _ hij ha) g4).2 b hbf)
    · exact e.wsk b hb (s.m.dom b hb) q
  have keepO : ∀ b o, W.H b = some o → b ∉ (inW W C is).wr → W'.H b = some o := fun b o h n => e.keep b o h n
  have base : ∀ (extra : List Addr) (more : List (Addr × List Addr)), (∀ b ∈ extra, W.H b = none ∧ W'.H b ≠ none) → Ext W { H := W'.H, ws := extra ++ W.ws, wr := extra ++ W.wr, pv := W.pv, As := W.As ++ more } := fun extra more hx =>
    ⟨fun b o h n => keepO b o h fun z => n (inW_sub s.m b z), e.there, fun b hb => by
      rcases List.mem_append.mp hb with z | z
      · exact .inr (hx b z).1
      · exact .inl z, fun b hb _ _ => List.mem_append_right _ hb, fun b hb => by
      rcases List.mem_append.mp hb with z | z
      · exact .inr (hx b z).1
      · exact .inl z, rfl, more, rfl⟩
  have persW' : ∀ (extra : List Addr) (more : List (Addr × List Addr)), (∀ b ∈ extra, b ∈ W'.ws) → Pers W' { H := W'.H, ws := extra ++ W.ws, wr := extra ++ W.wr, pv := W.pv, As := W.As ++ more } := fun extra more hx b o h n => ⟨h, fun z => by
    rcases List.mem_append.mp z with q | q
    · exact n (hx b q)
    · exact n (wk b q)⟩
  have cells : ∀ (extra : List Addr) (more : List (Addr × List Addr)), (∀ b ∈ extra, W.H b = none ∧ W'.H b ≠ none) → (∀ b ∈ extra, b ∈ W'.ws) → ∀ (i : Nat) (c3 : DC) (a : Addr) (fp : List Addr), C3[i]? = some c3 → W.As[i]? = some (a, fp) → live c3 →
      CellAt K { H := W'.H, ws := extra ++ W.ws, wr := extra ++ W.wr, pv := W.pv, As := W.As ++ more } a fp c3 ∧ (∀ b ∈ fp, b ∈ W.wr) ∧ ∃ c0, C[i]? = some c0 ∧ live c0 := by
    intro extra more hx hx2 i c3 a fp h1 h2 lv
    by_cases hi : i ∈ is
    · obtain ⟨j, hj, ej⟩ := List.getElem_of_mem hi
      have hij : is[j]? = some i := by rw [List.getElem?_eq_getElem hj, ej]
      obtain ⟨c0, c, c3', g1, g2, g3, g4, g5, g6⟩ := b3 j i hij
      rw [h1] at g5
      cases g5
      obtain ⟨q1, q2⟩ := m'.cell j c a fp g3 (hAs j i _ hij h2) g4
      refine ⟨?_, (s.m.cell i c0 a fp g1 h2 g2).2, c0, g1, g2⟩
      have q1' := q1.pers (persW' extra more hx2) fun _ _ => rfl
      rcases g6 with ⟨l, rfl, rfl | rfl⟩ | rfl
      · exact q1'
      · exact q1'
      · exact q1'
    · rw [b2 i hi] at h1
      obtain ⟨q1, q2⟩ := s.m.cell i c3 a fp h1 h2 lv
      refine ⟨q1.pers ((base extra more hx).pers s.m.wrws) fun b hb => ?_, q2, c3, h1, lv⟩
      have nb : b ∉ (inW W C is).wr := fun z => by
        obtain ⟨i2, hi2, hf⟩ := List.mem_flatMap.mp z
        obtain ⟨dc, a2, fp2, hc, lv2, ha2, hbf⟩ := mem_fpOf hf
        exact s.m.sep i i2 c3 dc a fp a2 fp2 (fun e => hi (e ▸ hi2)) h1 lv hc lv2 h2 ha2 b hb hbf
      cases hh : W.H b with
      | none => exact absurd hh (s.m.dom b (s.m.wrws b (q2 b hb)))
      | some o => exact keepO b o hh nb
  have memB : Mem K { H := W'.H, ws := W.ws, wr := W.wr, pv := W.pv, As := W.As } C3 := by
    refine ⟨s.m.wrws, s.m.pvws, s.m.dis, fun b hb => e.there b (s.m.dom b hb), by rw [b1]; exact s.m.len, fun i dc a fp h1 h2 h3 => ?_, fun i j dc dc' a fp a' fp' hij h1 h2 h3 h4 h5 h6 => ?_⟩
    · obtain ⟨q1, q2, _⟩ := cells [] [] (fun _ h => by simp at h) (fun _ h => by simp at h) i dc a fp h1 h2 h3
      exact ⟨by simpa using q1, q2⟩
    · obtain ⟨_, _, c0, g1, g2⟩ := cells [] [] (fun _ h => by simp at h) (fun _ h => by simp at h) i dc a fp h1 h5 h2
      obtain ⟨_, _, c0', g1', g2'⟩ := cells [] [] (fun _ h => by simp at h) (fun _ h => by simp at h) j dc' a' fp' h3 h6 h4
      exact s.m.sep i j c0 c0' a fp a' fp' hij g1 g2 g1' g2' h5 h6
  have extB : Ext W { H := W'.H, ws := W.ws, wr := W.wr, pv := W.pv, As := W.As } := by
    have := base [] [] (fun _ h => by simp at h)
    simpa using this
  have staB : Sta K { H := W'.H, ws := W.ws, wr := W.wr, pv := W.pv, As := W.As } S C3 σ := ⟨memB, s.s.mono s.m extB, Gd.ext s.g extB⟩
  exact ⟨{ H := W'.H, ws := W.ws, wr := W.wr, pv := W.pv, As := W.As }, rfl, extB, staB, fun b o h n => ⟨h, fun z => n (wk b z)⟩⟩
/-! defs that may raise -/
abbrev DSpX := List DV → Cs → (DV → Cs → Prop) → (DX → Cs → Prop) → Prop
def rawSpX (K : PySem.W.Frag) (n : Nat) (d : DSpX) : Sp := fun vs H Q E => vs.length = n ∧ ∃ W C xs, W.H = H ∧ W.pv = [] ∧ Mem K W C ∧ Tight W C ∧ RepVs K W vs xs ∧ ∃ (post : DV → Cs → Prop) (pox : DX → Cs → Prop), d xs C post pox ∧
  (∀ r C', post r C' → ∀ W' v, Ext W W' → Mem K W' C' → RepV K W' v r → Q v W'.H) ∧ ∀ x C', pox x C' → ∀ W' cls dd, Ext W W' → Mem K W' C' → RepX K W' cls dd x → E cls dd W'.H
def exitX (k : Nat) (pox : DX → Cs → Prop) : ExD := fun x _ C' => pox x (C'.take k)
end
theorem fn_dX {P : Program} {w : World} {K : PySem.W.Frag} {mg : Str → Option Value} {base : Heap} {x qual : Str} {params : Arguments} {body : List Stmt} {scope : Scope} {dvs : List V} {kws : List (Str × V)} {f : Addr} {fd : FuncData} {N ps : List Str} {k : Nat} {d : DSpX}
    (F : FunD K x qual params body scope dvs kws f fd) (SC : FnScope N ps scope)
    (hbody : ∀ (cdv : Value) (A : Around) (outer : List Env) (s : Shared) (H : Hp) (E : XK), Room k (A.deeper (envOfC qual scope s.heap.objs.size f cdv)) →
      ∀ (G : Gd K) (wd : ExD), GX K (fun cls d _ H => E cls d H) wd →
      ∃ t dt, QSs K (cxOf (L2.CX P w) P w K mg base N qual scope f cdv A outer s H E) body t dt ∧ ∀ xs C post pox, wd = exitX C.length pox → xs.length = ps.length → d xs C post pox → dt { nx := fun _ C' => exitD C.length post (.of .non) C', rt := exitD C.length post } (startD N.length xs) C) :
    FnOk P w K mg base (L2.CX P w) (k + 1) f fd ps (rawSpX K ps.length d) := by
  refine F.ok SC (fun vs H Q E h => h.1) fun cdv A outer s H vs Q E hr h => ?_
  obtain ⟨hl, W, C, xs, rfl, hp, m, tg, r, post, pox, hq, hpost, hpox⟩ := h
  have hg : @GX K (gdW K W) (fun cls d _ H => E cls d H) (exitX C.length pox) := fun W' S' C' σ' cls dd y g m' s' ry q => by
    have m2 := gdW_mem g m'
    have e2 : Ext W { W' with pv := W.pv } := g.1
    have m3 := m2.cut (n := C.length)
    have e3 : Ext W { W' with pv := W.pv, As := W'.As.take C.length } := by
      have := e2.cutAs (more := []) C.length m.len
      simpa using this
    exact hpox y _ q { W' with pv := W.pv, As := W'.As.take C.length } cls dd e3 m3 (RepX.mono (W := W') (W' := { W' with pv := W.pv, As := W'.As.take C.length }) (fun _ _ h n => ⟨h, n⟩) ry)
  obtain ⟨t, dt, q, hd⟩ := hbody cdv A outer s W.H E hr (gdW K W) (exitX C.length pox) hg
  have hxl : xs.length = ps.length := by rw [← r.len]; exact hl
  letI : Gd K := gdW K W
  have g0 : (gdW K W).ok W := ⟨.refl, [], rfl⟩
  refine ⟨t, q.p, ?_⟩
  refine q.r W (startD N.length xs) C (L2.start N vs) ⟨m, slo_start r, g0⟩ _ _ (hd xs C _ _ rfl hxl hq) ⟨fun W' S' C' σ' e s' q' => ?_, fun W' C' v x e m' r' q' => ?_, fun W' S' C' σ' e s' q' => q'.elim, fun W' S' C' σ' e s' q' => q'.elim⟩
  · exact exit_ok e m.len s'.m (v := .non) (x := .of .non) Rep.non q' hpost
  · exact exit_ok e m.len m' r' q' hpost
end Z
namespace Z
open PySem PySem.Spec PyProof.Rows L2 L2H
def retX (is : List Nat) (C C' : Cs) (k : Cs → Prop) : Prop := match backs C is C' with
  | some C3 => k C3
  | none => False
def callDX (mds : List Md) (d : DSpX) (xs : List DV) (C : Cs) (Q : DV → Cs → Prop) (X : DX → Cs → Prop) : Prop := prep mds xs C [] [] fun ys is bs C1 => match bs.all fun b => !is.contains b with
  | true => d ys (passD C1 is) (fun r C' => retC is C1 C' r Q) fun x C' => retX is C1 C' (X x)
  | false => False
def dCallFX (wd : ExD) (mds : List Md) (d : DSpX) (dds : List DV) (dt : DTA) : DTE := fun S C Q => dt S C fun xs C1 => callDX mds d (xs ++ dds) C1 Q fun x C' => wd x S C'
def dCallKX (wd : ExD) (mds : List Md) (d : DSpX) (g : List DV → List DV → List DV) (dt dk : DTA) : DTE := fun S C Q => dt S C fun xs C1 => dk S C1 fun ys C2 => callDX mds d (g xs ys) C2 Q fun x C' => wd x S C'
def dMethCX (wd : ExD) (c ms : Str) (mds : List Md) (d : DSpX) (dds : List DV) (de : DTE) (dt : DTA) : DTE := fun S C Q => de S C fun x C1 => match x with
  | .cel i => (match C1[i]? with | some (.dob c' f' _) => (c' = c ∧ f' ≠ ms) ∧ dt S C1 fun xs C2 => callDX mds d (.cel i :: (xs ++ dds)) C2 Q fun x C' => wd x S C' | _ => False)
  | _ => False
def dMethCKX (wd : ExD) (c ms : Str) (mds : List Md) (d : DSpX) (g : List DV → List DV → List DV) (de : DTE) (dt dk : DTA) : DTE := fun S C Q => de S C fun x C1 => match x with
  | .cel i => (match C1[i]? with | some (.dob c' f' _) => (c' = c ∧ f' ≠ ms) ∧ dt S C1 fun xs C2 => dk S C2 fun zs C3 => callDX mds d (g (.cel i :: xs) zs) C3 Q fun x C' => wd x S C' | _ => False)
  | _ => False
section
variable {K : PySem.W.Frag} [Gd K] {S : Sl} {σ : L2.St}
theorem call_okX {n : Nat} {d : DSpX} {mds : List Md} {W : Wd} {C : Cs} {vs : List V} {xs : List DV} {QD : DV → Cs → Prop} {XD : DX → Cs → Prop} {Q : VK} {E : XK} (s : Sta K W S C σ) (r : RepVs K W vs xs) (hn : vs.length = n) (h : callDX mds d xs C QD XD)
    (k : ∀ v x W' C', Ext W W' → Sta K W' S C' σ → RepV K W' v x → QD x C' → Q v W'.H)
    (kx : ∀ cls dd x W' C', Ext W W' → Sta K W' S C' σ → RepX K W' cls dd x → XD x C' → E cls dd W'.H) : rawSpX K n d vs W.H Q E := by
  obtain ⟨zs, is, bs, C1, W1, e1, hH1, s1, nd1, ry1, h1⟩ := prep_ok s List.nodup_nil r (.nil (K := K) (W := W) (C := C) (is := []) (bs := [])) h
  split at h1
  · rename_i hb
    have hb' : ∀ b ∈ bs, b ∉ is := fun b hbm z => by
      have := List.all_eq_true.mp hb b hbm
      rw [List.contains_iff_mem.mpr z] at this
      cases this
    obtain ⟨mi, ti⟩ := inW_mem s1.m nd1
    refine ⟨hn, inW W1 C1 is, passD C1 is, zs, hH1, rfl, mi, ti, ry1.inW s1.m hb', _, _, h1, fun r C' hr W' v e m' rv => ?_, fun x C' hx W' cls dd e m' rx => ?_⟩
    · exact ret_ok s1 nd1 e m' rv hr fun v x W2 C2 e2 s2 r2 q2 => k v x W2 C2 (e1.trans e2) s2 r2 q2
    · unfold retX at hx
      split at hx
      · rename_i C3 hC3
        obtain ⟨W2, hH, e2, s2, pe⟩ := ret_world s1 nd1 e m' hC3
        rw [← hH]
        exact kx cls dd x W2 C3 (e1.trans e2) s2 (rx.mono pe) hx
      · exact hx.elim
  · exact h1.elim
variable {X : Cx} {CX : CXT} {k j n m : Nat} {x c ms : Str} {d : DSpX} {mds : List Md} {dvs : List V} {dds : List DV} {p pos apos : Pos} {e o : Expr} {es : List Expr} {te : TE} {de : DTE} {t tk : TA} {dt dk : DTA} {kws : List Keyword} {ks : List Str} {gV : List V → List V → List V} {gD : List DV → List DV → List DV} {wx : WX} {wd : ExD}
theorem gx_none : GX K (fun _ _ _ _ => False) (fun _ _ _ => False) := fun _ _ _ _ _ _ _ _ _ _ _ h => h
theorem here_x (hG : GX K wx wd) {W : Wd} {C : Cs} {cls : Value} {dd : Option Addr} {x : DX} (s : Sta K W S C σ) (r : RepX K W cls dd x) (q : wd x S C) : wx cls dd σ W.H := hG W S C σ cls dd x s.g s.m s.s r q
theorem qcX (hG : GX K wx wd) (h : Callee X.prog X.w K X.mg X.base CX k x (rawSpX K n d) dvs) (hd : ∀ W, RepVs K W dvs dds) (hr : Room j X.A) (hk : k ≤ j) (hx : ∀ σ, PassesAt CX X σ (WE wx σ)) (hK : X.K = K) (hg : Gl X x) (ha : QA K X (e :: es) m t dt) (hn : m + dds.length = n := by rfl)
    (hdb : (x == ("__debug__" : Str)) = false := by decide) (he : starEach (e :: es) X.env = (false, eval e X.env) :: starEach es X.env := by rfl) (hpl : (backTo pos (starEach es X.env)).any (·.1) = false := by rfl) :
    QE K X (.Call (.Name x p) (e :: es) [] pos) (tCallW (rawSpX K n d) dvs wx t) (dCallFX wd mds d dds dt) := ⟨by subst hK; exact pcW h hr hk hx hg ha.p hdb he hpl, fun W S C σ s QD Q q kk =>
  ha.r W S C σ s _ _ q fun vs xs W1 C1 hl e1 s1 r1 q1 => call_okX s1 (r1.app (hd W1)) (by rw [List.length_append, hl, (hd W1).len]; exact hn) q1 (KV.ext kk e1) fun cls dd x W' C' _ s' r' q' => here_x hG s' r' q'⟩
theorem qckX {n' : Nat} (hG : GX K wx wd) (h : CalleeK X.prog X.w K X.mg X.base CX k x (rawSpX K n' d) n ks gV) (hR : GRel K n ks.length n' gV gD) (hr : Room j X.A) (hk : k ≤ j) (hx : ∀ σ, PassesAt CX X σ (WE wx σ)) (hK : X.K = K) (hg : Gl X x) (ha : QA K X (e :: es) n t dt) (hkw : QK K X kws ks.length tk dk)
    (hall : (backToKw pos (keywordEach kws X.env)).all (·.1.isSome) = true := by rfl) (hks : (backToKw pos (keywordEach kws X.env)).filterMap (·.1) = ks := by rfl)
    (hdb : (x == ("__debug__" : Str)) = false := by decide) (he : starEach (e :: es) X.env = (false, eval e X.env) :: starEach es X.env := by rfl)
    (hpl : ((backTo pos (starEach (e :: es) X.env)).any (·.1) || (backToKw pos (keywordEach kws X.env)).any (·.1.isNone)) = false := by rfl) :
    QE K X (.Call (.Name x p) (e :: es) kws pos) (tCallNW n ks.length (rawSpX K n' d) gV wx t tk) (dCallKX wd mds d gD dt dk) := ⟨by subst hK; exact pckW h hr hk hx hg ha.p hkw.p hall hks hdb he hpl, fun W S C σ s QD Q q kk =>
  ha.r W S C σ s _ _ q fun vs xs W1 C1 hl e1 s1 r1 q1 => hkw.r W1 S C1 σ s1 _ _ q1 fun zs ys W2 C2 hl2 e2 s2 r2 q2 => by
    obtain ⟨g1, g2⟩ := hR W2 vs zs xs ys (r1.mono s1.m e2) r2 hl hl2
    exact ⟨hl, hl2, call_okX s2 g1 g2 q2 (KV.ext kk (e1.trans e2)) fun cls dd x W' C' _ s' r' q' => here_x hG s' r' q'⟩⟩
end
end Z
namespace Z
open PySem PySem.Spec PyProof.Rows L2 L2H
section
variable {K : PySem.W.Frag} [Gd K] {X : Cx} {CX : CXT} {k j n m : Nat} {x c ms : Str} {d : DSpX} {mds : List Md} {dvs : List V} {dds : List DV} {p pos pos' apos : Pos} {e o : Expr} {es : List Expr} {te : TE} {de : DTE} {t tk : TA} {dt dk : DTA} {kws : List Keyword} {ks : List Str} {gV : List V → List V → List V} {gD : List DV → List DV → List DV} {wx : WX} {wd : ExD}
theorem qmtCX {pl : Sem Bool} (hG : GX K wx wd) (h : MethC X.prog X.w K X.mg X.base CX k c ms (rawSpX K n d) dvs) (hd : ∀ W, RepVs K W dvs dds) (hr : Room j X.A) (hk : k ≤ j) (hx : ∀ σ, PassesAt CX X σ (WE wx σ)) (hK : X.K = K) (ho : QE K X o te de) (ha : QA K X (e :: es) m t dt) (hn : m + dds.length + 1 = n := by rfl)
    (hst : starEach (e :: es) X.env = (false, eval e X.env) :: starEach es X.env := by rfl) (hpl : (backTo pos (starEach es X.env)).any (·.1) = false := by rfl)
    (ht : eval (.Call (.Attribute o ms apos) (e :: es) [] pos) X.env = (do
      let ov ← eval o X.env
      standAt apos.atName
      let (f, first) ← holding [ov] (getMethod ov ms pl)
      callWith pos f first (backTo pos (starEach (e :: es) X.env)) (backToKw pos (keywordEach [] X.env))) := by rfl) :
    QE K X (.Call (.Attribute o ms apos) (e :: es) [] pos) (tMethW (He.ga K c) ms (rawSpX K n d) dvs wx te t) (dMethCX wd c ms mds d dds de dt) := ⟨by subst hK; exact pmtW h hr hk hx ho.p ha.p hst hpl ht, fun W S C σ s QD Q q kk =>
  ho.r W S C σ s _ _ q fun v x W1 C1 e1 s1 r1 q1 => by
    split at q1
    · rename_i i
      split at q1
      · rename_i c' f' kvs hC
        obtain ⟨⟨rfl, hf⟩, q1⟩ := q1
        have r1' := r1
        obtain ⟨a, fp, h1, rfl⟩ := r1
        obtain ⟨⟨dd, dx, us, e, ne, g0, g1, g2⟩, _⟩ := s1.m.cell i _ a fp hC h1 trivial
        refine ⟨a, dx, _, rfl, g0, by rw [List.lookup_cons, beq_eq_false_iff_ne.mpr (Ne.symm hf)]; rfl, ha.r W1 S C1 σ s1 _ _ q1 fun vs xs W2 C2 hl e2 s2 r2 q2 => ?_⟩
        exact call_okX s2 (.cons _ _ _ _ (r1'.mono s1.m e2) (r2.app (hd W2))) (by rw [List.length_cons, List.length_append, hl, (hd W2).len]; exact hn) q2 (KV.ext kk (e1.trans e2)) fun cls dd x W' C' _ s' r' q' => here_x hG s' r' q'
      · exact q1.elim
    · exact q1.elim⟩
theorem qmtCkX {n' : Nat} {pl : Sem Bool} (hG : GX K wx wd) (h : MethK X.prog X.w K X.mg X.base CX k c ms (rawSpX K n' d) n ks gV) (hR : GRelM K n ks.length n' gV gD) (hr : Room j X.A) (hk : k ≤ j) (hx : ∀ σ, PassesAt CX X σ (WE wx σ)) (hK : X.K = K) (ho : QE K X o te de) (ha : QA K X (e :: es) n t dt) (hkw : QK K X kws ks.length tk dk)
    (hall : (backToKw pos (keywordEach kws X.env)).all (·.1.isSome) = true := by rfl) (hks : (backToKw pos (keywordEach kws X.env)).filterMap (·.1) = ks := by rfl)
    (hst : starEach (e :: es) X.env = (false, eval e X.env) :: starEach es X.env := by rfl)
    (hpl : ((backTo pos (starEach (e :: es) X.env)).any (·.1) || (backToKw pos (keywordEach kws X.env)).any (·.1.isNone)) = false := by rfl)
    (ht : eval (.Call (.Attribute o ms apos) (e :: es) kws pos) X.env = (do
      let ov ← eval o X.env
      standAt apos.atName
      let (f, first) ← holding [ov] (getMethod ov ms pl)
      callWith pos f first (backTo pos (starEach (e :: es) X.env)) (backToKw pos (keywordEach kws X.env))) := by rfl) :
    QE K X (.Call (.Attribute o ms apos) (e :: es) kws pos) (tMethNW (He.ga K c) ms n ks.length (rawSpX K n' d) gV wx te t tk) (dMethCKX wd c ms mds d gD de dt dk) := ⟨by subst hK; exact pmtkW h hr hk hx ho.p ha.p hkw.p hall hks hst hpl ht, fun W S C σ s QD Q q kk =>
  ho.r W S C σ s _ _ q fun v x W1 C1 e1 s1 r1 q1 => by
    split at q1
    · rename_i i
      split at q1
      · rename_i c' f' kvs hC
        obtain ⟨⟨rfl, hf⟩, q1⟩ := q1
        have r1' := r1
        obtain ⟨a, fp, h1, rfl⟩ := r1
        obtain ⟨⟨dd, dx, us, e, ne, g0, g1, g2⟩, _⟩ := s1.m.cell i _ a fp hC h1 trivial
        refine ⟨a, dx, _, rfl, g0, by rw [List.lookup_cons, beq_eq_false_iff_ne.mpr (Ne.symm hf)]; rfl, ha.r W1 S C1 σ s1 _ _ q1 fun vs xs W2 C2 hl e2 s2 r2 q2 => hkw.r W2 S C2 σ s2 _ _ q2 fun zs ys W3 C3 hl3 e3 s3 r3 q3 => ?_⟩
        obtain ⟨g4, g5⟩ := hR W3 (.ref a :: vs) zs _ _ (.cons _ _ _ _ ((r1'.mono s1.m e2).mono s2.m e3) (r2.mono s2.m e3)) r3 (congrArg (· + 1) hl) hl3
        exact ⟨hl, hl3, call_okX s3 g4 g5 q3 (KV.ext kk ((e1.trans e2).trans e3)) fun cls dd x W' C' _ s' r' q' => here_x hG s' r' q'⟩
      · exact q1.elim
    · exact q1.elim⟩
/-! raise -/
def excSp (K : PySem.W.Frag) (c : Str) (fs : List Str) : Sp := fun vs H Q _ => ∃ a xs, vs = .ref a :: xs ∧ xs.length = fs.length ∧ H a = some (exo a (He.ga K c) none) ∧ ∀ d, H d = none → d ≠ a → Q .non (L2.upd (L2.upd H d (exd d (fs.zip xs).reverse)) a (exo a (He.ga K c) (some d)))
def ExMk (P : Program) (w : World) (K : PySem.W.Frag) (mg : Str → Option Value) (base : Heap) (CX : CXT) (k : Nat) (c : Str) (fs : List Str) : Prop :=
  OexC K (He.ga K c) ∧ mg c = some (.ref (He.ga K c)) ∧ ∃ (fI : Addr) (fd : FuncData) (ps : List Str), PySem.W.findIn K (.ref (He.ga K c)) "__init__" = some (some (.ref fI)) ∧ PySem.W.typeIn K (.ref fI) = some (.type "function") ∧ FnOk P w K mg base CX k fI fd ps (excSp K c fs) ∧ Binds K fd ps []
def dRaise (wd : ExD) (c : Str) (fs : List Str) (dt : DTA) : DTS := fun _ S C => dt S C fun xs C1 => frzs xs C1 fun ds C2 => wd ⟨c, (fs.zip ds).reverse⟩ S C2
omit [Gd K] in
theorem repF_app {W : Wd} : ∀ {a b : List (Str × V)} {a' b' : List (Str × D)}, RepF K W a a' → RepF K W b b' → RepF K W (a ++ b) (a' ++ b')
  | _, _, _, _, .nil, h => h
  | _, _, _, _, .cons f v d vs ds r t, h => .cons _ _ _ _ _ r (repF_app t h)
omit [Gd K] in
theorem repF_rev {W : Wd} : ∀ {a : List (Str × V)} {a' : List (Str × D)}, RepF K W a a' → RepF K W a.reverse a'.reverse
  | _, _, .nil => .nil
  | _, _, .cons f v d vs ds r t => by rw [List.reverse_cons, List.reverse_cons]; exact repF_app (repF_rev t) (.cons _ _ _ _ _ r .nil)
theorem qs_raise {fs : List Str} (hG : GX K wx wd) (h : ExMk X.prog X.w K X.mg X.base CX k c fs) (hr : Room j X.A) (hk : k + 1 ≤ j) (hx : Passes CX X fun _ _ _ => False) (tk : Takes X wx) (hc : X.calm = true) (hK : X.K = K) (hg : Gl X c) (ha : QA K X (e :: es) m t dt) (hm : m = fs.length := by rfl) (hz : m ≤ 1000 := by decide)
    (hdb : (c == ("__debug__" : Str)) = false := by decide) (he : starEach (e :: es) X.env = (false, eval e X.env) :: starEach es X.env := by rfl) (hpl : (backTo pos (starEach es X.env)).any (·.1) = false := by rfl) :
    QS K X (.Raise (some (.Call (.Name c p) (e :: es) [] pos)) none pos') (fun _ σ H => tMkO (He.ga K c) (excSp K c fs) [] t σ H fun cls d H' => wx cls d σ H') (dRaise wd c fs dt) := by
  obtain ⟨T, hmg, fI, fd, ps, iC, tI, F, hb⟩ := h
  refine ⟨by subst hK; exact ps_raise hc tk (pmk_oex T iC tI F (hr.mono hk) hb .nil hx hg hmg ha.p hdb he hpl), fun W S C σ s D E q _ => ha.r W S C σ s _ _ q fun vs xs W1 C1 hl e1 s1 r1 q1 => ?_⟩
  obtain ⟨ds, W2, C2, e2, hH, s2, r2, q2⟩ := frzs_ok s1 r1 q1
  refine ⟨by rw [hl]; exact hz, fun a ha0 => ⟨a, vs, by rw [List.append_nil], by rw [hl, hm], upd_same, fun d hd hne => ?_⟩⟩
  have hd1 : W1.H d = none := by rw [upd_ne hne] at hd; exact hd
  refine ⟨rfl, d, (fs.zip vs).reverse, upd_same, by rw [upd_ne hne, upd_same], hd1, ?_⟩
  have eH : L2.upd (del (L2.upd (L2.upd (L2.upd W1.H a (exo a (He.ga K c) none)) d (exd d (fs.zip vs).reverse)) a (exo a (He.ga K c) (some d))) a) d (.xd (fs.zip vs).reverse) = (W2.new d (.xd (fs.zip vs).reverse)).H := by
    show _ = L2.upd W2.H d _
    rw [hH]
    funext b
    by_cases hb : b = d
    · rw [hb, upd_same, upd_same]
    · rw [upd_ne hb, upd_ne hb]
      by_cases hba : b = a
      · rw [hba, del_same]; exact ha0.symm
      · rw [del_ne hba, upd_ne hba, upd_ne hb, upd_ne hba]
  rw [eH]
  have hd2 : W2.H d = none := by rw [hH]; exact hd1
  exact here_x hG (s2.new hd2) ⟨rfl, d, _, rfl, upd_same, (s2.m.fresh hd2).1, RepF.mono ((Ext.new hd2).pers s2.m.wrws) (repF_rev (Reps.zipF r2))⟩ q2
end
end Z
namespace Z
open PySem PySem.Spec PyProof.Rows L2 L2H
/-! a caught exception, as a cell -/
def ExP (x : DX) : CellP := fun K W a fp => fp = [a] ∧ ∃ dd fs, W.H a = some (exv (.ref (He.ga K x.cls)) (some dd) a) ∧ W.H dd = some (.xd fs) ∧ dd ∉ W.ws ∧ RepF K W fs x.fs
theorem ExP_st (x : DX) : StableP (ExP x) := fun K W W' a fp h p s => by
  obtain ⟨e, dd, fs, h1, h2, h3, h4⟩ := h
  obtain ⟨q1, q2⟩ := p dd _ h2 h3
  exact ⟨e, dd, fs, by rw [s a (by rw [e]; simp)]; exact h1, q1, q2, RepF.mono p h4⟩
abbrev exC (x : DX) : DC := .abs (ExP x) (ExP_st x)
/-- e.f -/
def dXF (cs : List Str) (f : Str) (de : DTE) : DTE := fun S C Q => de S C fun v C1 => match v with
  | .cel i => ∃ x fv, C1[i]? = some (exC x) ∧ cs.contains x.cls = true ∧ x.fs.lookup f = some fv ∧ Q (.of fv) C1
  | _ => False
/-- isinstance(e, c), as a table tells -/
def dIsX (K : PySem.W.Frag) (u : V) (cs : List (Str × Bool)) : DRA := fun xs C Q => match xs with
  | [.cel i, .of (.val u')] => u' = u ∧ ∃ x b, C[i]? = some (exC x) ∧ cs.lookup x.cls = some b ∧ Q (.of (.bl b)) C
  | _ => False
section
variable {K : PySem.W.Frag} [Gd K] {X : Cx} {e : Expr} {te : TE} {de : DTE} {f : Str} {pos : Pos}
omit [Gd K] in
theorem ex_cell {W : Wd} {C : Cs} {i : Nat} {x : DX} {v : V} (m : Mem K W C) (r : RepV K W v (.cel i)) (h : C[i]? = some (exC x)) : ∃ a dd fs, v = .ref a ∧ W.H a = some (exv (.ref (He.ga K x.cls)) (some dd) a) ∧ W.H dd = some (.xd fs) ∧ dd ∉ W.ws ∧ RepF K W fs x.fs := by
  obtain ⟨a, fp, h1, rfl⟩ := r
  obtain ⟨⟨_, dd, fs, q1, q2, q3, q4⟩, _⟩ := m.cell i _ a fp h h1 trivial
  exact ⟨a, dd, fs, rfl, q1, q2, q3, q4⟩
theorem qe_xf (cs : List Str) (hcs : ∀ c ∈ cs, ExK K (He.ga K c) ∧ PySem.W.findIn K (.ref (He.ga K c)) f = some none) (hK : X.K = K) (he : QE K X e te de) (hb : attributeBase e f X.env (eval e X.env) = eval e X.env := by rfl) : QE K X (.Attribute e f pos) (tXfV K f te) (dXF cs f de) :=
  ⟨by subst hK; exact pe_xfV he.p hb, fun W S C σ s QD Q q k => he.r W S C σ s _ _ q fun v y W1 C1 e1 s1 r1 q1 => by
    split at q1
    · rename_i i
      obtain ⟨x, fv, hC, hc, hl, q2⟩ := q1
      obtain ⟨a, dd, fs, rfl, h1, h2, h3, h4⟩ := ex_cell s1.m r1 hC
      obtain ⟨v, hv, rv⟩ := RepF.look h4 hl
      obtain ⟨g1, g2⟩ := hcs x.cls (List.contains_iff_mem.mp hc)
      exact ⟨a, _, dd, fs, v, rfl, h1, g1, g2, h2, hv, k v (.of fv) W1 C1 e1 s1 rv q2⟩
    · exact q1.elim⟩
theorem cq_isX {u : V} {cv : Value} (hu : ∀ w, RelV u w → w = cv) (cs : List (Str × Bool)) (hcs : ∀ p ∈ cs, ExK K (He.ga K p.1) ∧ PySem.W.kitOne K (.ref (He.ga K p.1)) cv = some p.2) (hK : X.K = K) : QC K X (.builtin "isinstance") 2 (rIsV K) (dIsX K u cs) :=
  ⟨by subst hK; exact call_isV, fun W S C σ s vs xs QD Q hlen r q k => by
    unfold dIsX at q
    split at q
    · rename_i i u'
      obtain ⟨rfl, x, b, hC, hl, q2⟩ := q
      obtain ⟨v, w, rfl, r1, r2⟩ := repVs2 r
      obtain ⟨a, dd, fs, rfl, h1, h2, h3, h4⟩ := ex_cell s.m r1 hC
      cases r2
      have hmem : (x.cls, b) ∈ cs := by
        clear q2 hlen r k
        induction cs with
        | nil => cases hl
        | cons p cs ih =>
          rw [List.lookup_cons] at hl
          by_cases hp : (x.cls == p.1) = true
          · rw [hp] at hl
            cases hl
            rw [eq_of_beq hp]; exact List.mem_cons_self
          · rw [Bool.not_eq_true _ |>.mp hp] at hl
            exact List.mem_cons_of_mem _ (ih (fun p hp => hcs p (List.mem_cons_of_mem _ hp)) hl)
      obtain ⟨g1, g2⟩ := hcs _ hmem
      exact ⟨a, _, some dd, u', cv, b, rfl, h1, fun d' e => by cases e; exact ⟨fs, h2⟩, g1, hu, g2, k.here s (.bl b) q2⟩
    · exact q.elim⟩
end
/-! try -/
abbrev HdD := List (Str × Bool) × Option Nat × DTS
def outD (oi : Option Nat) (E : DE) : DE := match oi with
  | none => E
  | some i => { nx := fun S C => E.nx (S.set i none) C, rt := E.rt, bk := fun S C => E.bk (S.set i none) C, ct := fun S C => E.ct (S.set i none) C }
def inD (oi : Option Nat) (j : Nat) (S : Sl) : Sl := match oi with
  | none => S
  | some i => S.set i (some (.cel j))
def dCl (wout : ExD) (E : DE) : List HdD → ExD
  | [] => wout
  | (tbl, oi, dt) :: r => fun x S C => match tbl.lookup x.cls with
    | some true => dt (outD oi E) (inD oi C.length S) (C ++ [exC x])
    | some false => dCl wout E r x S C
    | none => False
def dTryX (wout : ExD) (hs : List HdD) (db : ExD → DTS) : DTS := fun E S C => db (dCl wout E hs) E S C
theorem lookup_mem {cs : List (Str × Bool)} {c : Str} {b : Bool} (h : cs.lookup c = some b) : (c, b) ∈ cs := by
  induction cs with
  | nil => cases h
  | cons p cs ih =>
    rw [List.lookup_cons] at h
    by_cases hp : (c == p.1) = true
    · rw [hp] at h
      cases h
      rw [eq_of_beq hp]; exact List.mem_cons_self
    · rw [Bool.not_eq_true _ |>.mp hp] at h
      exact List.mem_cons_of_mem _ (ih h)
section
variable {K : PySem.W.Frag} [G0 : Gd K] {X : Cx}
/-- the clauses, over the heap and over trees -/
inductive HdQ (K : PySem.W.Frag) [Gd K] (X : Cx) : List ExceptHandler → List Hd → List HdD → Prop
  | nil : HdQ K X [] [] []
  | one {x : Str} {c : Value} {t : TS} {tbl : List (Str × Bool)} {dt : DTS} {b₀ : Stmt} {suite : List Stmt} {np pos' : Pos} {hds : List ExceptHandler} {l : List Hd} {m : List HdD} (hc : Names X x c) (ht : ∀ p ∈ tbl, PySem.W.exmOne K (.ref (He.ga K p.1)) c = some p.2)
      (hs : ∀ (a : Addr) (pn : List (Addr × Obj)), QSs K (X.suite a pn) (b₀ :: suite) t dt) (r : HdQ K X hds l m) : HdQ K X (.ExceptHandler (some (.Name x np)) none (b₀ :: suite) pos' :: hds) ((c, none, fun _ _ _ => t) :: l) ((tbl, none, dt) :: m)
  | named {x n : Str} {i : Nat} {c : Value} {t : TS} {tbl : List (Str × Bool)} {dt : DTS} {b₀ : Stmt} {suite : List Stmt} {np pos' : Pos} {hds : List ExceptHandler} {l : List Hd} {m : List HdD} (hc : Names X x c) (hN : X.N.Nodup) (hi : X.N[i]? = some n) (hl : X.env.kindOf n = some .local) (ht : ∀ p ∈ tbl, PySem.W.exmOne K (.ref (He.ga K p.1)) c = some p.2)
      (hs : ∀ (a : Addr) (pn : List (Addr × Obj)), QSs K (X.suite a pn) (b₀ :: suite) t dt) (r : HdQ K X hds l m) : HdQ K X (.ExceptHandler (some (.Name x np)) (some n) (b₀ :: suite) pos' :: hds) ((c, some i, fun _ _ _ => t) :: l) ((tbl, some i, dt) :: m)
theorem HdQ.raw {hds : List ExceptHandler} {l : List Hd} {m : List HdD} (h : HdQ K X hds l m) : HdE X hds l := by
  induction h with
  | nil => exact .nil
  | one hc ht hs r ih => exact .one hc (fun a _ _ pn => (hs a pn).p) ih
  | named hc hN hi hl ht hs r ih => exact .named hc hN hi hl (fun a _ _ pn => (hs a pn).p) ih
theorem slo_unset {W : Wd} {S : Sl} {σ : L2.St} (h : Slo K W S σ) (i : Nat) : Slo K W (S.set i none) (σ.set i none) := by
  refine ⟨by rw [List.length_set, List.length_set, h.len], fun j y q => ?_⟩
  by_cases e : i = j
  · subst e
    have hi : i < S.length := by
      have := (List.getElem?_eq_some_iff.mp q).1
      rwa [List.length_set] at this
    rw [List.getElem?_set_self hi] at q
    cases q
  · rw [List.getElem?_set_ne e] at q
    rw [List.getElem?_set_ne e]
    exact h.get j y q
theorem ends_out {W : Wd} {D : Ends} {E : DE} (k : EndsOk K W D E) (oi : Option Nat) : EndsOk K W (outS oi D) (outD oi E) := by
  cases oi with
  | none => exact k
  | some i => exact ⟨fun W' S C σ e s q => k.nx W' _ C _ e ⟨s.m, slo_unset s.s i, s.g⟩ q, k.rt, fun W' S C σ e s q => k.bk W' _ C _ e ⟨s.m, slo_unset s.s i, s.g⟩ q, fun W' S C σ e s q => k.ct W' _ C _ e ⟨s.m, slo_unset s.s i, s.g⟩ q⟩
theorem cl_ok {hds : List ExceptHandler} {l : List Hd} {m : List HdD} {wx : WX} {wd : ExD} {D : Ends} {E : DE} {W : Wd} (hG : GX K wx wd) (h : HdQ K X hds l m) (k : EndsOk K W D E) : ∀ {W2 : Wd} {S : Sl} {C : Cs} {σ : L2.St} {cls : Value} {d : Option Addr} {x : DX}, Ext W W2 → Sta K W2 S C σ → RepX K W2 cls d x → dCl wd E m x S C → wCl K wx D l cls d σ W2.H := by
  induction h with
  | nil => exact fun e s r q => here_x hG s r q
  | @one x0 c t tbl dt b₀ suite np pos' hds l m hc ht hs r ih =>
    intro W2 S C σ cls d x e s rx q
    unfold dCl at q
    split at q
    · rename_i hl
      refine ⟨true, by rw [rx.1]; exact ht _ (lookup_mem hl), fun _ a ha => ?_, fun z => Bool.noConfusion z⟩
      obtain ⟨e1, dd, fs, rfl, h2, h3, h4⟩ := rx
      subst e1
      have na : dd ≠ a := fun z => by rw [← z, h2] at ha; cases ha
      have s3 := s.newcell (o := exv (.ref (He.ga K x.cls)) (some dd) a) (dc := exC x) ha ⟨rfl, dd, fs, upd_same, by show L2.upd W2.H a _ dd = _; rw [upd_ne na]; exact h2, fun z => by
        rcases List.mem_cons.mp z with z | z
        · exact na z
        · exact h3 z, RepF.mono ((Ext.cell ha).pers s.m.wrws) h4⟩
      exact (hs a []).r _ S _ σ s3 D E q (k.ext (e.trans (Ext.cell ha)))
    · rename_i hl
      exact ⟨false, by rw [rx.1]; exact ht _ (lookup_mem hl), (fun z => Bool.noConfusion z), fun _ => ih e s rx q⟩
    · exact q.elim
  | @named x0 n i c t tbl dt b₀ suite np pos' hds l m hc hN hi hl0 ht hs r ih =>
    intro W2 S C σ cls d x e s rx q
    unfold dCl at q
    split at q
    · rename_i hl
      refine ⟨true, by rw [rx.1]; exact ht _ (lookup_mem hl), fun _ a ha => ?_, fun z => Bool.noConfusion z⟩
      obtain ⟨e1, dd, fs, rfl, h2, h3, h4⟩ := rx
      subst e1
      have na : dd ≠ a := fun z => by rw [← z, h2] at ha; cases ha
      have s3 := s.newcell (o := exv (.ref (He.ga K x.cls)) (some dd) a) (dc := exC x) ha ⟨rfl, dd, fs, upd_same, by show L2.upd W2.H a _ dd = _; rw [upd_ne na]; exact h2, fun z => by
        rcases List.mem_cons.mp z with z | z
        · exact na z
        · exact h3 z, RepF.mono ((Ext.cell ha).pers s.m.wrws) h4⟩
      have s4 : Sta K (W2.cell a (exv (.ref (He.ga K x.cls)) (some dd) a)) (S.set i (some (.cel C.length))) (C ++ [exC x]) (σ.set i (some (.ref a))) := ⟨s3.m, s3.s.set (RepV.newcell s.m), s3.g⟩
      exact (hs a []).r _ _ _ _ s4 (outS (some i) D) (outD (some i) E) q (ends_out (k.ext (e.trans (Ext.cell ha))) (some i))
    · rename_i hl
      exact ⟨false, by rw [rx.1]; exact ht _ (lookup_mem hl), (fun z => Bool.noConfusion z), fun _ => ih e s rx q⟩
    · exact q.elim
theorem qs_tryX {body : List Stmt} {h₀ : ExceptHandler} {hds : List ExceptHandler} {l : List Hd} {m : List HdD} {pos : Pos} {tb : WX → TS} {db : ExD → DTS} {wx : WX} {wd : ExD} (hG : GX K wx wd) (hs : X.stack = X.env :: X.outer) (hf : X.env.frame = some X.env.locals) (tk : Takes X wx) (hK : X.K = K)
    (hb : ∀ (G : Gd K) (wx : WX) (wd : ExD) (pn : List (Addr × Obj)) (xe : Value → Shared → Prop), @GX K G wx wd → Takes (X.tr pn xe) wx → PassesOwn (model X.prog X.w) X.A X.env xe → @QSs K G (X.tr pn xe) body (tb wx) (db wd))
    (hh : HdQ K X (h₀ :: hds) l m) : QS K X (.Try body (h₀ :: hds) [] [] pos) (fun D σ H => tb (wCl K wx D l) D σ H) (dTryX wd m db) := by
  have hp : ∀ (W : WX) (pn : List (Addr × Obj)) (xe : Value → Shared → Prop), Takes (X.tr pn xe) W → PassesOwn (model X.prog X.w) X.A X.env xe → PSs (X.tr pn xe) body (tb W) := fun W pn xe t1 t2 =>
    @QSs.p K ⟨fun _ => False, fun h _ => h, fun h => h⟩ _ _ _ _ (hb ⟨fun _ => False, fun h _ => h, fun h => h⟩ W (fun _ _ _ => False) pn xe (fun _ _ _ _ _ _ _ h => h.elim) t1 t2)
  refine ⟨by subst hK; exact ps_tryE hs hf tk hp hh.raw, fun W S C σ s D E q k => ?_⟩
  have hg : @GX K (gdW K W) (wCl K wx D l) (dCl wd E m) := fun W' S' C' σ' cls d x g m' s' rx q' => by
    have e2 : Ext W { W' with pv := W.pv } := g.1
    exact cl_ok hG hh k (W2 := { W' with pv := W.pv }) e2 ⟨gdW_mem g m', gdW_slo g s', Gd.ext s.g e2⟩ (gdW_x rx) q'
  have back : ∀ {W' : Wd} {S' : Sl} {C' : Cs} {σ' : L2.St}, Ext W W' → @Sta K (gdW K W) W' S' C' σ' → Sta K W' S' C' σ' := fun e s' => ⟨@Sta.m K (gdW K W) _ _ _ _ s', @Sta.s K (gdW K W) _ _ _ _ s', Gd.ext s.g e⟩
  have kk : @EndsOk K (gdW K W) W D E := @EndsOk.mk K (gdW K W) W D E (fun W' S C σ e s' q => k.nx W' S C σ e (back e s') q) k.rt (fun W' S C σ e s' q => k.bk W' S C σ e (back e s') q) (fun W' S C σ e s' q => k.ct W' S C σ e (back e s') q)
  have qq := hb (gdW K W) (wCl K wx D l) (dCl wd E m) X.pn (fun e s1 => wpAny (model X.prog X.w) X.A (noteFrame e X.env) (fun _ s2 => wpAny (model X.prog X.w) X.A (setFlight e none) (fun _ _ => True) (fun _ _ => True) s2) (fun _ _ => True) s1) hg (fun u s' xx => by
    obtain ⟨a, B, sI, pins', σ', H', cls, d, rfl, J, nb, up, sky, na, os, ag, w⟩ := xx
    have sky' : Sky B (X.env :: X.outer) a (Zc cls d) X.env.locals s'.heap := by rw [← hs]; exact sky
    have hfr : X.A.frames = some (X.env :: X.outer) := by
      have := J.ok.frames
      rw [← hs]; exact this
    exact Sky.land Zc.steady hfr hf sky' fun _ _ _ => trivial) PassesOwn.looking
  exact @QSs.r K (gdW K W) _ _ _ _ qq W S C σ (@Sta.mk K (gdW K W) W S C σ s.m s.s ⟨.refl, [], rfl⟩) D E q kk
end
end Z
namespace Z
open PySem PySem.Spec PyProof.Rows L2 L2H
/-! within a suite, and in defs that are called there -/
theorem unitsH {k : Nat} {A : Around} (r : RoomH k A) : A.units + 64 < cLine := by have := r.un; omega
theorem roomS {k : Nat} {A : Around} {v : Value} (r : Room k A) : RoomH k (A.mark (some v)) := ⟨r.dp, r.un⟩
theorem roomH_in1 {k : Nat} {A : Around} (r : RoomH (k + 1) A) : RoomH k A.in1 :=
  ⟨by have := r.dp; show A.depth + 3 * k + 5 < _; omega, by have := r.un; show A.units + 1 + 16 * k + 200 < _; omega⟩
def CalleeC (P : Program) (w : World) (K : PySem.W.Frag) (mg : Str → Option Value) (base : Heap) (CX : CXT) (k : Nat) (x : Str) (sp : Sp) (dvs : List V) : Prop :=
  ∃ (fd : FuncData) (ps : List Str) (ds : List Value), FnC P w K mg base CX k (He.ga K x) fd ps sp ∧ mg x = some (.ref (He.ga K x)) ∧ PySem.W.keepIn K (.ref (He.ga K x)) = true ∧ Binds K fd ps ds ∧ Vals dvs ds
theorem CalleeC.ok {P : Program} {w : World} {K : PySem.W.Frag} {mg : Str → Option Value} {base : Heap} {CX : CXT} {k : Nat} {x : Str} {sp : Sp} {dvs : List V} (h : CalleeC P w K mg base CX k x sp dvs) : Callee P w K mg base CX k x sp dvs := by
  obtain ⟨fd, ps, ds, F, h1, h2, h3, h4⟩ := h
  exact ⟨fd, ps, ds, F.ok, h1, h2, h3, h4⟩
def MethCC (P : Program) (w : World) (K : PySem.W.Frag) (mg : Str → Option Value) (base : Heap) (CX : CXT) (k : Nat) (c m : Str) (sp : Sp) (dvs : List V) : Prop :=
  ∃ (f : Addr) (fd : FuncData) (ps : List Str) (ds : List Value), Cls K (He.ga K c) ∧ Meth K (He.ga K c) m f ∧ FnC P w K mg base CX k f fd ps sp ∧ Binds K fd ps ds ∧ Vals dvs ds
theorem MethCC.ok {P : Program} {w : World} {K : PySem.W.Frag} {mg : Str → Option Value} {base : Heap} {CX : CXT} {k : Nat} {c m : Str} {sp : Sp} {dvs : List V} (h : MethCC P w K mg base CX k c m sp dvs) : MethC P w K mg base CX k c m sp dvs := by
  obtain ⟨f, fd, ps, ds, h1, h2, F, h3, h4⟩ := h
  exact ⟨f, fd, ps, ds, h1, h2, F.ok, h3, h4⟩
section
variable {X : Cx} {CX : CXT} {k j : Nat} {f : Addr} {fd : FuncData} {ps : List Str} {sp : Sp} {dvs : List V} {ds : List Value} {x c ms : Str} {p pos apos : Pos} {e o : Expr} {es : List Expr} {te : TE} {t : TA} {E : XK}
theorem run_c {pins : List (Addr × Obj)} {σ : L2.St} {H : Hp} {s : Shared} {Q : VK} {us : List Value} {vs : List V} {A : Around} (F : FnC X.prog X.w X.K X.mg X.base CX k f fd ps sp) (hr : RoomH k A) (hfr : A.frames = X.A.frames) (hb : Binds X.K fd ps ds) (hd : Vals dvs ds) (hx : Passes CX X E)
    (I : Inv X pins σ H s) (r : Vals vs us) (h : sp (vs ++ dvs) H Q E) : wpAny (model X.prog X.w) A (call (.ref f) us) (EP X pins σ Q) X.xe s := by
  have rr : Vals (vs ++ dvs) (us ++ ds) := r.append hd
  have hn : (us ++ ds).length = ps.length := rr.length ▸ F.len _ _ _ _ h
  have e0 : Env0 X.prog X.w X.K X.mg X.base A X.stack s H := by
    have e := I.env0
    exact ⟨by rw [hfr]; exact e.frames, e.mod, e.bs, e.bsz, e.funs, e.frf, e.hok, e.bare⟩
  refine wpAny_call (codeAny_mono (F.run A X.stack s H ⟨us, []⟩ _ _ Q E hr e0 (hb s us I.kIn hn) rr h) fun z s' q => ?_)
  match z, q with
  | .error e, q => exact hx pins σ H s e s' I q
  | .ok (.ret _), q => exact I.after q
  | .ok .next, q => exact q.elim
  | .ok .brk, q => exact q.elim
  | .ok .cont, q => exact q.elim
theorem pcC (h : CalleeC X.prog X.w X.K X.mg X.base CX k x sp dvs) (hr : RoomH j X.A) (hk : k ≤ j) (hx : Passes CX X E) (hg : Gl X x) (ha : PA X (e :: es) t)
    (hdb : (x == ("__debug__" : Str)) = false := by decide) (he : starEach (e :: es) X.env = (false, eval e X.env) :: starEach es X.env := by rfl) (hpl : (backTo pos (starEach es X.env)).any (·.1) = false := by rfl) :
    PE X (.Call (.Name x p) (e :: es) [] pos) (tCall sp dvs E t) := by
  obtain ⟨fd, ps, ds, F, hm, kp, b, d⟩ := h
  exact ⟨fun pins s σ H Q I h => wpAny_Call_Name_kw (ld_glob I hg hm (PySem.W.callWith_K (h₀ := X.base) I.ok.mod.kin kp (thn (ha.run pos pins s σ H _ I h) fun us s1 ⟨vs, H1, I1, r, q⟩ => ⟨I1.kIn, run_c F (hr.mono hk) rfl b d hx I1 r q⟩) he hpl) hdb)⟩
theorem pmtC0 {pl : Sem Bool} (h : MethCC X.prog X.w X.K X.mg X.base CX k c ms sp dvs) (hr : RoomH j X.A) (hk : k ≤ j) (hx : Passes CX X E) (ho : PE X o te)
    (ht : eval (.Call (.Attribute o ms apos) [] [] pos) X.env = (do
      let ov ← eval o X.env
      standAt apos.atName
      let (f, first) ← holding [ov] (getMethod ov ms pl)
      callWith pos f first (backTo pos (starEach [] X.env)) (backToKw pos (keywordEach [] X.env))) := by rfl) :
    PE X (.Call (.Attribute o ms apos) [] [] pos) (tMeth (He.ga X.K c) ms sp dvs E te tNil) := by
  obtain ⟨f, fd, ps, ds, cl, hm, F, b, d⟩ := h
  refine ⟨fun pins s σ H Q I h => PySem.W.methodCall_KW (pl := pl) (thn (ho.run pins s σ H _ I h) fun u s1 ⟨y, H1, I1, ry, a, dx, fs, ey, ea, l, q⟩ => ?_) ht⟩
  subst ey
  obtain rfl : u = Value.ref a := ry
  refine getmeth_ok I1 ea cl hm l (PySem.W.callWith_K0 (first := [.ref a]) I1.kIn hm.kp (run_c (us := [.ref a]) (vs := [.ref a]) F (hr.mono hk) rfl b d hx I1 (.cons rfl .nil) q))
theorem cr_ownLenC (h : MethCC X.prog X.w X.K X.mg X.base CX k c "__len__" sp []) (hr : RoomH j X.A) (hk : k + 1 ≤ j) (hx : Passes CX X E) : CallR X (.builtin "len") (rOwn1 X.K c sp E lenV) := by
  intro pins s σ H xs us Q I r q
  obtain ⟨a, dx, fs, rfl, ha, q⟩ := q
  obtain ⟨f, fd, ps, ds, cl, me, F, b, v⟩ := h
  cases v
  obtain rfl := Vals.ref1 r
  obtain ⟨mA, J, _⟩ := ins_get I.hok ha
  obtain ⟨od, J, _⟩ := J.look
  obtain ⟨m, hF⟩ := I.fr
  refine PySem.W.len_K hF I.ok.mod.kin J me.at_ me.fn (wpAny_mono (run_c (us := [.ref a]) (vs := [.ref a]) (dvs := []) F (roomH_in1 (hr.mono hk)) rfl b .nil hx I (.cons rfl .nil) q) (fun r s' z => ?_) fun _ _ e => e)
  obtain ⟨y, H', I', ry, hP, q'⟩ := z
  cases y with
  | int n =>
    obtain ⟨t, rfl⟩ := ry
    have h1 : (2 : Int) ^ 62 < 2 ^ 63 := by decide
    exact ⟨⟨hP.1, Int.lt_trans hP.2 h1⟩, ⟨.int n, H', I'.tok _, ⟨_, rfl⟩, q'⟩⟩
  | _ => exact hP.elim
end
section
variable {K : PySem.W.Frag} [Gd K] {X : Cx} {CX : CXT} {k j n m : Nat} {x c ms : Str} {d : DSp} {mds : List Md} {dvs : List V} {dds : List DV} {p pos apos : Pos} {e o : Expr} {es : List Expr} {te : TE} {de : DTE} {t : TA} {dt : DTA} {E : XK}
theorem qcC (h : CalleeC X.prog X.w K X.mg X.base CX k x (rawSp K n d) dvs) (hd : ∀ W, RepVs K W dvs dds) (hr : RoomH j X.A) (hk : k ≤ j) (hx : Passes CX X E) (hK : X.K = K) (hg : Gl X x) (ha : QA K X (e :: es) m t dt) (hn : m + dds.length = n := by rfl)
    (hdb : (x == ("__debug__" : Str)) = false := by decide) (he : starEach (e :: es) X.env = (false, eval e X.env) :: starEach es X.env := by rfl) (hpl : (backTo pos (starEach es X.env)).any (·.1) = false := by rfl) :
    QE K X (.Call (.Name x p) (e :: es) [] pos) (tCall (rawSp K n d) dvs E t) (dCallF mds d dds dt) := ⟨by subst hK; exact pcC h hr hk hx hg ha.p hdb he hpl, refE_call ha.r hd hn⟩
theorem qmtC0C {pl : Sem Bool} (h : MethCC X.prog X.w K X.mg X.base CX k c ms (rawSp K n d) dvs) (hd : ∀ W, RepVs K W dvs dds) (hr : RoomH j X.A) (hk : k ≤ j) (hx : Passes CX X E) (hK : X.K = K) (ho : QE K X o te de) (hn : 0 + dds.length + 1 = n := by rfl)
    (ht : eval (.Call (.Attribute o ms apos) [] [] pos) X.env = (do
      let ov ← eval o X.env
      standAt apos.atName
      let (f, first) ← holding [ov] (getMethod ov ms pl)
      callWith pos f first (backTo pos (starEach [] X.env)) (backToKw pos (keywordEach [] X.env))) := by rfl) :
    QE K X (.Call (.Attribute o ms apos) [] [] pos) (tMeth (He.ga K c) ms (rawSp K n d) dvs E te tNil) (dMethC c ms mds d dds de dNil) := ⟨by subst hK; exact pmtC0 h hr hk hx ho.p ht, refE_methC ho.r refA_nil hd hn⟩
theorem cq_ownLenC (h : MethCC X.prog X.w K X.mg X.base CX k c "__len__" (rawSp K 1 d) []) (hr : RoomH j X.A) (hk : k + 1 ≤ j) (hx : Passes CX X E) (hK : X.K = K) : QC K X (.builtin "len") 1 (rOwn1 K c (rawSp K 1 d) E lenV) (dOwn1 c mds d lenD) := ⟨by subst hK; exact cr_ownLenC h hr hk hx, refC_own1 len_hP⟩
end
theorem fn_dC {P : Program} {w : World} {K : PySem.W.Frag} {mg : Str → Option Value} {base : Heap} {x qual : Str} {params : Arguments} {body : List Stmt} {scope : Scope} {dvs : List V} {kws : List (Str × V)} {f : Addr} {fd : FuncData} {CX : CXT} {N ps : List Str} {k : Nat} {d : DSp}
    (F : FunD K x qual params body scope dvs kws f fd) (S : FnScope N ps scope)
    (hbody : ∀ (cdv : Value) (A : Around) (outer : List Env) (s : Shared) (H : Hp) (E : XK), RoomH k (A.deeper (envOfC qual scope s.heap.objs.size f cdv)) →
      ∃ t dt, @QSs K (gd0 K) (cxC CX P w K mg base N qual scope f cdv A outer s H E) body t dt ∧ ∀ xs C post, xs.length = ps.length → d xs C post → dt { nx := fun _ C' => exitD C.length post (.of .non) C', rt := exitD C.length post } (startD N.length xs) C) :
    FnC P w K mg base CX (k + 1) f fd ps (rawSp K ps.length d) := by
  letI : Gd K := gd0 K
  refine fn_c F S (fun vs H Q E h => h.1) fun cdv A outer s H vs Q E hr h => ?_
  obtain ⟨t, dt, q, hd⟩ := hbody cdv A outer s H E hr
  obtain ⟨hl, W, C, xs, rfl, hp, m, tg, r, post, hq, hpost⟩ := h
  have hxl : xs.length = ps.length := by rw [← r.len]; exact hl
  refine ⟨t, q.p, q.r W (startD N.length xs) C (L2.start N vs) ⟨m, slo_start r, trivial⟩ _ _ (hd xs C _ hxl hq) ⟨fun W' S' C' σ' e s' q' => ?_, fun W' C' v x e m' r' q' => ?_, fun W' S' C' σ' e s' q' => q'.elim, fun W' S' C' σ' e s' q' => q'.elim⟩⟩
  · exact exit_ok e m.len s'.m (v := .non) (x := .of .non) Rep.non q' hpost
  · exact exit_ok e m.len m' r' q' hpost
end Z
namespace Z
open PySem PySem.Spec PyProof.Rows L2 L2H
/-! xs.count(y), flat items -/
def rCntF (K : PySem.W.Frag) : V → List V → Hp → VK → Prop := fun x xs H Q => ∃ (p : Addr) (ys : List V) (y : V), x = .ref p ∧ xs = [y] ∧ SqL K H p ys ∧ flatV y = true ∧ ys.all flatV = true ∧ Q (.int (ys.countP fun z => eqV z y : Nat)) H
theorem cnt_u {y : V} : ∀ {ys : List V} {us : List Value}, Vals ys us → ys.all flatV = true → us.countP (eqU y) = ys.countP fun z => eqV z y
  | _, _, .nil, _ => rfl
  | z :: zs, u :: us, .cons r t, h => by
    rw [List.all_cons, Bool.and_eq_true] at h
    rw [List.countP_cons, List.countP_cons, cnt_u t h.2, eqU_of r h.1]
theorem mt_cntF {X : Cx} : MtR X "list.count" (rCntF X.K) := by
  intro pins s σ H x xs v us Q I rx rxs h
  obtain ⟨p, ys, y, rfl, rfl, hs, fy, fys, q⟩ := h
  cases rx
  obtain ⟨u, rfl, ru⟩ := rxs.one
  obtain ⟨its, rv, ⟨⟨cls, dd, data, sl⟩, n, ho, hc, hdn, hd⟩, hlen⟩ := I.list hs
  simp only at hc hd
  subst hc hd
  refine call_meets PySem.F.slot_list_count ⟨_, ho, rfl⟩ PySem.F.entry_list_count (PySem.F.args_list_count_2 _ _) (SeqAt.list_countAt p its.toArray n dd sl u (eqU y)) ⟨ho, fun z hz => mem_eqAt ru fy rv fys z (by simpa using hz), ?_⟩
  refine ⟨.int (ys.countP fun z => eqV z y : Nat), H, I.tok _, ⟨s.toks, ?_⟩, q⟩
  show Value.int ((its.toArray.toList.countP (eqU y) : Nat) : Int) s.toks = _
  rw [show its.toArray.toList.countP (eqU y) = ys.countP fun z => eqV z y from cnt_u rv fys]
def dCntF : DRM := fun x xs C Q => match rdL x C, xs with
  | some l, [.of d] => (flatD d = true ∧ l.all flatD = true) ∧ Q (.of (.int (l.countP fun e => eqF e d : Nat))) C
  | _, _ => False
section
variable {K : PySem.W.Frag} [Gd K]
theorem cntF_ok {W : Wd} {v : V} {d : D} (r : Rep K W v d) (hd : flatD d = true) : ∀ {us : List V} {l : List D}, Reps K W us l → l.all flatD = true → (us.countP fun z => eqV z v) = l.countP fun e => eqF e d
  | _, _, .nil, _ => rfl
  | _, _, .cons u e vs ds h t, q => by
    rw [List.all_cons, Bool.and_eq_true] at q
    rw [List.countP_cons, List.countP_cons, cntF_ok r hd t q.2, eqF_ok h r q.1 hd]
theorem refM_cntF : RefM K (rCntF K) dCntF := fun W S C σ s v vs x xs QD Q rx rs q k => by
  unfold dCntF at q
  split at q
  · rename_i l d hl
    obtain ⟨⟨q1, q2⟩, q3⟩ := q
    obtain ⟨a, us, rfl, h1, h2⟩ := rdL_ok s.m rx hl
    obtain ⟨u, rfl, r0⟩ := repVs1 rs
    refine ⟨a, us, u, rfl, rfl, SqL.of h1, flat_rep r0 q1, flats_rep h2 q2, ?_⟩
    rw [cntF_ok r0 q1 h2 q2]
    exact k.here s (.int _) q3
  · exact q.elim
theorem qe_cntL {X : Cx} {n : Nat} {o : Expr} {es : List Expr} {e : Expr} {apos cpos : Pos} {to : TE} {dO : DTE} {ta : TA} {da : DTA} (hK : X.K = K) (ho : QE K X o to dO) (ha : QA K X (e :: es) n ta da)
    (hbase : attributeBase o "count" X.env (eval o X.env) = eval o X.env := by rfl)
    (hfew : ((backTo cpos (starEach (e :: es) X.env)).all (fun x => !x.1) && (backToKw cpos (keywordEach [] X.env)).all (fun x => x.1.isSome)
      && decide ((e :: es).length + ([] : List Keyword).length + (if ([] : List Keyword).isEmpty then 0 else 1) < 30)) = true := by rfl)
    (hline : (apos.endLine == cpos.line) = true := by rfl) (hs : starEach (e :: es) X.env = (false, eval e X.env) :: starEach es X.env := by rfl) (hplain : (backTo cpos (starEach es X.env)).any (·.1) = false := by rfl) :
    QE K X (.Call (.Attribute o "count" apos) (e :: es) [] cpos) (tBM K "list" (rCntF K) to ta) (dBM dCntF dO da) := ⟨by subst hK; exact pe_bm PySem.F.plainAttrs_list PySem.F.slot_list_count PySem.F.type_list_count mt_cntF ho.p ha.p hbase hfew hline hs hplain, refE_bm refM_cntF ho.r ha.r⟩
end
end Z
namespace Z
open PySem PySem.Spec PyProof.Rows L2 L2H
/-! texts: count, index -/
section
variable {K : PySem.W.Frag} [Gd K] {X : Cx} {o e : Expr} {es : List Expr} {to te : TE} {dO de : DTE} {t : TA} {dt : DTA} {n : Nat} {apos cpos : Pos}
def dCntS : List Nat → List DV → Cs → (DV → Cs → Prop) → Prop := fun l xs C Q => match xs with | [.of (.str s)] => Q (.of (.int (Txt.count ⟨l.toArray⟩ ⟨s.toArray⟩))) C | _ => False
theorem qe_count (hK : X.K = K) (ho : QE K X o to dO) (ha : QA K X (e :: es) n t dt)
    (hbase : attributeBase o "count" X.env (eval o X.env) = eval o X.env := by rfl)
    (hfew : ((backTo cpos (starEach (e :: es) X.env)).all (fun x => !x.1) && (backToKw cpos (keywordEach [] X.env)).all (fun x => x.1.isSome)
      && decide ((e :: es).length + ([] : List Keyword).length + (if ([] : List Keyword).isEmpty then 0 else 1) < 30)) = true := by rfl)
    (hline : (apos.endLine == cpos.line) = true := by rfl) (hs : starEach (e :: es) X.env = (false, eval e X.env) :: starEach es X.env := by rfl) (hplain : (backTo cpos (starEach es X.env)).any (·.1) = false := by rfl) :
    QE K X (.Call (.Attribute o "count" apos) (e :: es) [] cpos) (tBM K "str" (fun x xs H Q => ∃ a b, x = .str a ∧ xs = [.str b] ∧ Q (.int (Txt.count a b)) H) to t) (dBMS dO dt dCntS) :=
  ⟨by subst hK; exact pe_bm PySem.F.plainAttrs_str PySem.F.slot_str_count PySem.F.type_str_count mt_count ho.p ha.p hbase hfew hline hs hplain, fun W S C σ s QD Q q k => ho.r W S C σ s _ _ q fun v x W1 C1 e1 s1 r1 q1 => by
  split at q1
  · obtain ⟨z, rfl, rfl⟩ := rep_str r1
    refine ⟨rfl, ha.r W1 S C1 σ s1 _ _ q1 fun vs xs W2 C2 hl e2 s2 r2 q2 => ?_⟩
    unfold dCntS at q2
    split at q2
    · obtain ⟨u, rfl, r3⟩ := repVs1 r2
      obtain ⟨y, rfl, rfl⟩ := rep_str r3
      rw [str_mk, str_mk] at q2
      exact ⟨z, y, rfl, rfl, k.at (e1.trans e2) s2 (.int _) q2⟩
    · exact q2.elim
  · exact q1.elim⟩
def dIdxS : List Nat → List DV → Cs → (DV → Cs → Prop) → Prop := fun l xs C Q => match xs with | [.of (.str s)] => ∃ k : Nat, Txt.index0 ⟨l.toArray⟩ ⟨s.toArray⟩ = some k ∧ Q (.of (.int (k : Int))) C | _ => False
theorem qe_index (hK : X.K = K) (ho : QE K X o to dO) (ha : QA K X (e :: es) n t dt)
    (hbase : attributeBase o "index" X.env (eval o X.env) = eval o X.env := by rfl)
    (hfew : ((backTo cpos (starEach (e :: es) X.env)).all (fun x => !x.1) && (backToKw cpos (keywordEach [] X.env)).all (fun x => x.1.isSome)
      && decide ((e :: es).length + ([] : List Keyword).length + (if ([] : List Keyword).isEmpty then 0 else 1) < 30)) = true := by rfl)
    (hline : (apos.endLine == cpos.line) = true := by rfl) (hs : starEach (e :: es) X.env = (false, eval e X.env) :: starEach es X.env := by rfl) (hplain : (backTo cpos (starEach es X.env)).any (·.1) = false := by rfl) :
    QE K X (.Call (.Attribute o "index" apos) (e :: es) [] cpos) (tBM K "str" (fun x xs H Q => ∃ a b i rest, x = .str a ∧ xs = [.str b] ∧ Builtin.Str.occurrences a b 0 a.length 1 = i :: rest ∧ Q (.int (i : Nat)) H) to t) (dBMS dO dt dIdxS) :=
  ⟨by subst hK; exact pe_bm PySem.F.plainAttrs_str PySem.F.slot_str_index PySem.F.type_str_index mt_sindex ho.p ha.p hbase hfew hline hs hplain, fun W S C σ s QD Q q k => ho.r W S C σ s _ _ q fun v x W1 C1 e1 s1 r1 q1 => by
  split at q1
  · obtain ⟨z, rfl, rfl⟩ := rep_str r1
    refine ⟨rfl, ha.r W1 S C1 σ s1 _ _ q1 fun vs xs W2 C2 hl e2 s2 r2 q2 => ?_⟩
    unfold dIdxS at q2
    split at q2
    · obtain ⟨u, rfl, r3⟩ := repVs1 r2
      obtain ⟨y, rfl, rfl⟩ := rep_str r3
      rw [str_mk, str_mk] at q2
      obtain ⟨j, hj, q3⟩ := q2
      unfold Txt.index0 at hj
      cases ho : PySem.Builtin.Str.occurrences z y 0 z.length 1 with
      | nil => rw [ho] at hj; cases hj
      | cons a r =>
        rw [ho] at hj
        have ej : a = j := Option.some.inj hj
        subst ej
        exact ⟨z, y, a, r, rfl, rfl, ho, k.at (e1.trans e2) s2 (.int _) q3⟩
    · exact q2.elim
  · exact q1.elim⟩
end
theorem cnt_q (l : List Nat) : Txt.count ⟨l.toArray⟩ ⟨([34] : List Nat).toArray⟩ = ((l.count 34 : Nat) : Int) := by
  have := count34 ⟨l.toArray⟩
  rw [q34] at this
  exact this
theorem idx_q (l : List Nat) : Txt.index0 ⟨l.toArray⟩ ⟨([34] : List Nat).toArray⟩ = qAt l := by
  have := index_q ⟨l.toArray⟩
  rw [q34] at this
  exact this
end Z

set_option Elab.async false
set_option linter.all false
set_option maxRecDepth 100000
set_option maxHeartbeats 4000000
/-! ### sets of texts: made of a list or a tuple, sorted -/
namespace ST
open PySem PySem.Spec PyProof.Rows L2
/-- at a stands the set of the texts l -/
def Has (P : Program) (w : World) (h : Heap) (a : Addr) (l : List Str) : Prop := ∃ D : Froz.SD, h.get? a = some (Froz.sObj "set" D) ∧ Froz.TxOk P w D l ∧ Ris D.2.2.place.toList ∧ (w.params.followText "set-order" = true ∨ D.2.2.led = true)
theorem Has.at {P : Program} {w : World} {h h' : Heap} {a : Addr} {l : List Str} (k : Has P w h a l) (e : ∀ o, h.get? a = some o → h'.get? a = some o) : Has P w h' a l := by
  obtain ⟨D, q, r⟩ := k
  exact ⟨D, e _ q, r⟩
theorem tail_ris {ep : Nat} {es : Array (Int × Value)} {t : SetTable} {wd : Bool} (r : Ris t.place.toList) : Ris (Froz.tailTx ep es t wd).2.2.place.toList := by
  unfold Froz.tailTx
  split
  · exact relayAll_ris _ _ _
  · exact r
theorem tail_led {ep : Nat} {es : Array (Int × Value)} {t : SetTable} {wd : Bool} : (Froz.tailTx ep es t wd).2.2.led = t.led := by
  unfold Froz.tailTx
  split
  · exact relayAll_led _ _ _
  · rfl
theorem add_ris {h : Int} {v : Value} {D : Froz.SD} (r : Ris D.2.2.place.toList) : Ris (Froz.addTx h v D).2.2.place.toList := by
  have q := layNew_ris D.2.2 D.1 h v r
  unfold Froz.addTx
  refine tail_ris ?_
  split <;> exact q
theorem add_led {h : Int} {v : Value} {D : Froz.SD} : (Froz.addTx h v D).2.2.led = D.2.2.led := by
  have q := layNew_led D.2.2 D.1 h v
  unfold Froz.addTx
  refine tail_led.trans ?_
  split <;> exact q
section
variable {P : Program} {w : World} {A : Around} {E : Value → Shared → Prop} {s : Shared} {a : Addr} {l : List Str}
theorem put {k : Str} {u : Tok} {Q : Bool → Shared → Prop} (hs : Has P w s.heap a l) (hb : l.length + 1 < scanBound)
    (h : ∀ (b : Bool) h' l', Heap.SameBut a s.heap h' → Has P w h' a l' → (∀ x, x ∈ l' ↔ x = k ∨ x ∈ l) → (l.Nodup → l'.Nodup) → l'.length ≤ l.length + 1 → Q b { s with heap := h' }) :
    wpAny (model P w) A (setAddHashed a (.str k u) (hashStr w k)) Q E s := by
  obtain ⟨D, ho, F, r, hl⟩ := hs
  by_cases hk : k ∈ l
  · obtain ⟨es, ep, t⟩ := D
    have key : (strKind P w).is k (.str k u) = true := Froz.is_str k u
    have n1 : es.size = l.length := F.sz
    have dt : (Froz.sObj "set" (es, ep, t)).data = .set es ep t := rfl
    have fit : t.fits es.size = true := F.fit
    have el : ElemsOf (strKind P w) es.toList := F.el
    have there : ∃ e ∈ es.toList, (strKind P w).is k e.2 = true := (F.mem k).mp hk
    unfold setAddHashed setAddHashedIn
    refine wpAny_holding (wpAny_bind (wpAny_setState_of ho dt fit ?_))
    dsimp only
    rw [byScan_of (x := Value.str k u) rfl (by omega) el]
    simp only [↓reduceIte]
    unfold setAddByScan
    refine wpAny_bind (wpAny_bind (wpAny_rule (wpAny_bind (wpAny_setScan_of (knd := strKind P w) (k := k) key ho dt fit el ?_))))
    cases hf : List.findIdx? (fun e => (strKind P w).is k e.2) es.toList with
    | none =>
      obtain ⟨e, h1, h2⟩ := there
      have := List.findIdx?_eq_none_iff.mp hf e h1
      rw [h2] at this; cases this
    | some j =>
      dsimp only
      exact wpAny_pure (wpAny_pure (h _ s.heap l (Heap.SameBut.refl a s.heap) ⟨_, ho, F, r, hl⟩ (fun x => ⟨.inr, fun q => q.elim (fun e => e ▸ hk) id⟩) id (Nat.le_succ _)))
  · refine Froz.add_x ho F hk hb ?_
    exact h true _ (k :: l) (Heap.SameBut.update s.heap a _) ⟨_, Froz.get_upd _ ho rfl, Froz.add_ok u F, add_ris r, hl.imp id fun z => add_led.trans z⟩ (fun x => List.mem_cons) (fun nd => List.nodup_cons.mpr ⟨hk, nd⟩) (Nat.le_refl _)
end
section
variable {P : Program} {w : World} {A : Around} {R : Result → Shared → Prop} {I : Addr} {fp wr : List Addr} {G : Array GenState → Array GenState → Prop} {n : Nat} {Pv : Nat → Value → Prop} {St : Nat → Shared → Prop}
theorem loop (W : WalksS P w A.in1 I fp wr G n Pv St) (S : Addr) (out : S ∉ fp) (xs : List Str) (len : xs.length = n) (few : n + 1 < scanBound) (item : ∀ i v, Pv i v → ∃ k t, xs[i]? = some k ∧ v = Value.str k t) :
    ∀ (m i : Nat) (s : Shared) (l : List Str), n = i + m → St i s → Has P w s.heap S l → l.Nodup → (∀ x, x ∈ l ↔ x ∈ xs.take i) → l.length ≤ i →
      (∀ s' l', Moved (S :: wr) G s s' → Has P w s'.heap S l' → l'.Nodup → (∀ x, x ∈ l' ↔ x ∈ xs) → R (.ok (.ret .none)) s') →
      codeAny (model P w) A (.builtin "set.update.loop" ⟨[.ref S, .ref I], []⟩) R s
  | 0, i, s, l, hi, st, hs, nd, mem, le, fin => by
    have e : i = n := by omega
    subst e
    refine codeAny_builtin F.entry_set_update_loop ?_
    rw [Around.under_plainId F.plain_set_update_loop _]
    refine wpAny_bind (m := pyNext (.ref I)) (W.done s _ _ st fun s' mv => ?_)
    refine wpAny_pure (fin s' l (mv.mono fun b hb => List.mem_cons_of_mem _ hb) (hs.at fun o e => mv.heap S o (fun z => out (W.sub _ z)) e) nd fun x => ?_)
    rw [mem, ← len, List.take_length]
  | m + 1, i, s, l, hi, st, hs, nd, mem, le, fin => by
    refine codeAny_builtin F.entry_set_update_loop ?_
    rw [Around.under_plainId F.plain_set_update_loop _]
    refine wpAny_bind (m := pyNext (.ref I)) (W.item i s _ _ (by omega) st fun v s' pv st' mv => ?_)
    obtain ⟨k, t, hk, rfl⟩ := item i v pv
    refine wpAny_bind (m := holding [Value.str k t] (setAdd S (.str k t))) (wpAny_holding ?_)
    unfold setAdd
    refine wpAny_holding (wpAny_bind ((strKind P w).pyHash (k := k) (Froz.is_str k t) ?_))
    refine put (s := { s' with toks := s'.toks + 1 }) (hs.at fun o e => mv.heap S o (fun z => out (W.sub _ z)) e) (by omega) fun b h' l' sb hs' mem' nd' le' => ?_
    have kept : ∀ b o, b ≠ S → s'.heap.get? b = some o → h'.get? b = some o := fun b o hb e => (sb.2 b hb).trans e
    refine wpAny_pure ⟨plainId_quiet F.plain_set_update_loop _, loop W S out xs len few item m (i + 1) _ l' (by omega) (W.frame _ s' _ _ st' (Nat.le_succ _) fun b hb o e => kept b o (fun z => out (z ▸ hb)) e) hs' (nd' nd) (fun x => ?_) (by omega) fun s'' l'' mv' hs'' nd'' mem'' => ?_⟩
    · obtain ⟨hlt, e⟩ := List.getElem?_eq_some_iff.mp hk
      rw [mem', mem, List.take_succ_eq_append_getElem hlt, List.mem_append, List.mem_singleton, e]
      exact Or.comm
    · exact fin s'' l'' (Moved.trans W.gtrans ((mv.mono fun b hb => List.mem_cons_of_mem _ hb).then_heap (Nat.le_succ _) fun b o hb e => kept b o (fun z => hb (z ▸ List.mem_cons_self)) e) mv') hs'' nd'' mem''
end
end ST
namespace ST
open PySem PySem.Spec PyProof.Rows L2
theorem str_at : ∀ {vs : List Value} {xs : List Str}, StrsAre vs xs → ∀ (i : Nat) (v : Value), vs[i]? = some v → ∃ k t, xs[i]? = some k ∧ v = Value.str k t
  | _, _, .nil, i, v, h => by cases h
  | _, _, .cons n t r, 0, v, h => ⟨n, t, rfl, (Option.some.inj h).symm⟩
  | _, _, .cons n t r, i + 1, v, h => str_at r i v h
/-- the set that is made first -/
abbrev bare (w : World) : Obj := { cls := .type "set", dict := none, data := .set #[] 0 (.fresh 0 0 (!w.params.followText "set-order")) }
theorem has_bare {P : Program} (w : World) (h : Heap) : Has P w (h.push (bare w)) h.objs.size [] := by
  refine ⟨(#[], 0, .fresh 0 0 (!w.params.followText "set-order")), Heap.get?_push_size _ rfl, Froz.TxOk.nil rfl, List.Pairwise.nil, ?_⟩
  show _ ∨ (!w.params.followText "set-order") = true
  cases w.params.followText "set-order"
  · exact .inr rfl
  · exact .inl rfl
section
variable {P : Program} {w : World} {A : Around} {E : Value → Shared → Prop} {s : Shared}
set_option maxHeartbeats 8000000 in
/-- set(xs), xs a list of texts -/
theorem make_list {c : Addr} {items : Array Value} {xs : List Str} {Q : Value → Shared → Prop} (calm : A.handled = none) (seq : s.heap.IsList c items) (txt : StrsAre items.toList xs) (few : xs.length + 1 < scanBound)
    (fin : ∀ h' tk l, Has P w h' s.heap.objs.size l → l.Nodup → (∀ x, x ∈ l ↔ x ∈ xs) → (∀ b o, s.heap.get? b = some o → h'.get? b = some o) → Q (.ref s.heap.objs.size) { s with heap := h', toks := tk }) :
    wpAny (model P w) A (call (.type "set") [.ref c]) Q E s := by
  have nitems : xs.length = items.size := by rw [← StrsAre.len_eq txt, Array.length_toList]
  obtain ⟨c0, tl, hmro⟩ := F.called_set.mro
  have hmade := F.called_set.made
  have hsub := F.called_set.sub
  refine wpAny_call (codeAny_of_tree ?_)
  refine wpAny_pure ⟨Code.quiet_builtin _ (by decide +kernel), codeAny_builtin F.entry_type_call ?_⟩
  rw [Around.under_plain (weight_type_call_type "set" [.ref c] []) rfl]
  have notTy := F.called_set.notType
  have canMk := F.called_set.canCreate
  have tyCall := F.typeCall_set_1 (.ref c)
  repeat (any_goals (first | assumption | wp_step))
  refine codeAny_mono (code_set_led1 (.ref c) (E := E) (Q₁ := fun obj s₁ => obj = .ref s.heap.objs.size ∧ s₁ = { s with heap := s.heap.push (bare w) }) ⟨rfl, rfl⟩) fun r s₁ hr => ?_
  match r, hr with
  | .error e, hr => exact hr
  | .ok (.ret obj), hr =>
    obtain ⟨rfl, rfl⟩ := hr
    have new : (s.heap.push (bare w)).get? s.heap.objs.size = some (bare w) := Heap.get?_push_size _ rfl
    have isTy : Shared.TypeIs { s with heap := s.heap.push (bare w) } (.ref s.heap.objs.size) "set" := ⟨_, new, rfl⟩
    have lookup := F.called_set.init.lookup
    have bind := F.called_set.init.bind (.ref s.heap.objs.size)
    repeat (any_goals (first | assumption | wp_step))
    refine codeAny_mono (codeAny_call_builtin (R := wants (fun r s₂ => r = .none ∧ ∃ h' tk l, s₂ = { s with heap := h', toks := tk } ∧ Has P w h' s.heap.objs.size l ∧ l.Nodup ∧ (∀ x, x ∈ l ↔ x ∈ xs) ∧ ∀ b o, s.heap.get? b = some o → h'.get? b = some o) E)
      F.called_set.init.plain F.entry_set_init (check_set_init_1 isTy ?_)) fun r₂ s₂ hr₂ => ?_
    · have seq1 : (s.heap.push (bare w)).IsList c items := seq.push _
      have seq2 := seq1
      obtain ⟨⟨ocls, odict, odata, oslots⟩, hol, hcl, nl, hdl⟩ := seq
      simp only at hcl hdl
      subst hcl; subst hdl
      have hol' := Heap.get?_push_of_some (bare w) hol
      have q1 := F.sub_list_set
      have q2 := F.sub_list_frozenset
      have q3 : (Value.type "list" == Value.type "dict") = false := by decide
      unfold Builtin.«set.__init__» noKeywords Builtin.Frozenset.updateFrom
      generalize hPI : pyIter = PI
      wp_walk
      subst hPI
      refine wpAny_pyIter_list seq2 (wpAny_bind (wpAny_runValue ?_))
      have cS : c < s.heap.objs.size := Heap.lt_size hol
      have calm3 : A.in1.in1.in1.handled = none := by simp [calm]
      have sz : (s.heap.push (bare w)).objs.size = s.heap.objs.size + 1 := Heap.size_push ..
      have ne1 : c ≠ (s.heap.push (bare w)).objs.size := by rw [sz]; exact Nat.ne_of_lt (Nat.lt_succ_of_lt cS)
      have out : s.heap.objs.size ∉ [(s.heap.push (bare w)).objs.size, c] := by
        rw [sz]
        simp only [List.mem_cons, List.not_mem_nil, or_false, not_or]
        exact ⟨Nat.ne_of_lt (Nat.lt_succ_self _), Nat.ne_of_gt cS⟩
      refine loop ((Walks.list calm3 _ c ne1 items).toS) s.heap.objs.size out xs nitems (by omega) (fun i v hv => ?_) items.size 0 _ [] (by omega)
        ⟨⟨_, Heap.get?_push_size _ rfl, rfl, rfl⟩, seq2.push _⟩ ?_ List.nodup_nil (fun x => by simp) (Nat.zero_le _) fun s' l mv hs nd mem => ?_
      · exact str_at txt i v (by rw [Array.getElem?_toList]; exact hv)
      · exact (has_bare w s.heap).at fun o e => Heap.get?_push_of_some _ e
      · obtain ⟨h', g', d', tk', os'⟩ := s'
        have e1 : g' = s.gens := mv.gens
        have e2 : d' = s.drawn := mv.drawn
        have e3 : os' = s.os := mv.os
        subst e1; subst e2; subst e3
        refine wpAny_pure (wpAny_pure ⟨rfl, h', tk', l, rfl, hs, nd, mem, fun b o e => ?_⟩)
        refine mv.heap b o (fun z => ?_) (Heap.get?_push_of_some _ (Heap.get?_push_of_some _ e))
        have lt := Heap.lt_size e
        simp only [List.mem_cons, List.not_mem_nil, or_false] at z
        rcases z with z | z
        · rw [z] at lt; exact absurd lt (Nat.lt_irrefl _)
        · rw [z, sz] at lt; exact absurd lt (Nat.not_lt.mpr (Nat.le_succ _))
    · match r₂, hr₂ with
      | .error e, hr₂ => exact hr₂
      | .ok (.ret r), hr₂ =>
        obtain ⟨rfl, h', tk, l, rfl, hs, nd, mem, kp⟩ := hr₂
        repeat (any_goals (first | assumption | wp_step))
        exact fin _ _ _ hs nd mem kp
set_option maxHeartbeats 8000000 in
/-- set(xs), xs a tuple of texts -/
theorem make_tuple {c : Addr} {items : Array Value} {xs : List Str} {Q : Value → Shared → Prop} (calm : A.handled = none) (seq : s.heap.IsTuple c items) (txt : StrsAre items.toList xs) (few : xs.length + 1 < scanBound)
    (fin : ∀ h' tk l, Has P w h' s.heap.objs.size l → l.Nodup → (∀ x, x ∈ l ↔ x ∈ xs) → (∀ b o, s.heap.get? b = some o → h'.get? b = some o) → Q (.ref s.heap.objs.size) { s with heap := h', toks := tk }) :
    wpAny (model P w) A (call (.type "set") [.ref c]) Q E s := by
  have nitems : xs.length = items.size := by rw [← StrsAre.len_eq txt, Array.length_toList]
  obtain ⟨c0, tl, hmro⟩ := F.called_set.mro
  have hmade := F.called_set.made
  have hsub := F.called_set.sub
  refine wpAny_call (codeAny_of_tree ?_)
  refine wpAny_pure ⟨Code.quiet_builtin _ (by decide +kernel), codeAny_builtin F.entry_type_call ?_⟩
  rw [Around.under_plain (weight_type_call_type "set" [.ref c] []) rfl]
  have notTy := F.called_set.notType
  have canMk := F.called_set.canCreate
  have tyCall := F.typeCall_set_1 (.ref c)
  repeat (any_goals (first | assumption | wp_step))
  refine codeAny_mono (code_set_led1 (.ref c) (E := E) (Q₁ := fun obj s₁ => obj = .ref s.heap.objs.size ∧ s₁ = { s with heap := s.heap.push (bare w) }) ⟨rfl, rfl⟩) fun r s₁ hr => ?_
  match r, hr with
  | .error e, hr => exact hr
  | .ok (.ret obj), hr =>
    obtain ⟨rfl, rfl⟩ := hr
    have new : (s.heap.push (bare w)).get? s.heap.objs.size = some (bare w) := Heap.get?_push_size _ rfl
    have isTy : Shared.TypeIs { s with heap := s.heap.push (bare w) } (.ref s.heap.objs.size) "set" := ⟨_, new, rfl⟩
    have lookup := F.called_set.init.lookup
    have bind := F.called_set.init.bind (.ref s.heap.objs.size)
    repeat (any_goals (first | assumption | wp_step))
    refine codeAny_mono (codeAny_call_builtin (R := wants (fun r s₂ => r = .none ∧ ∃ h' tk l, s₂ = { s with heap := h', toks := tk } ∧ Has P w h' s.heap.objs.size l ∧ l.Nodup ∧ (∀ x, x ∈ l ↔ x ∈ xs) ∧ ∀ b o, s.heap.get? b = some o → h'.get? b = some o) E)
      F.called_set.init.plain F.entry_set_init (check_set_init_1 isTy ?_)) fun r₂ s₂ hr₂ => ?_
    · have seq1 : (s.heap.push (bare w)).IsTuple c items := seq.push _
      have seq2 := seq1
      obtain ⟨⟨ocls, odict, odata, oslots⟩, hol, hcl, nl, hdl⟩ := seq
      simp only at hcl hdl
      subst hcl; subst hdl
      have hol' := Heap.get?_push_of_some (bare w) hol
      have q1 := F.sub_tuple_set
      have q2 := F.sub_tuple_frozenset
      have q3 : (Value.type "tuple" == Value.type "dict") = false := by decide
      unfold Builtin.«set.__init__» noKeywords Builtin.Frozenset.updateFrom
      generalize hPI : pyIter = PI
      wp_walk
      subst hPI
      refine wpAny_pyIter_tuple seq2 (wpAny_bind (wpAny_runValue ?_))
      have cS : c < s.heap.objs.size := Heap.lt_size hol
      have calm3 : A.in1.in1.in1.handled = none := by simp [calm]
      have sz : (s.heap.push (bare w)).objs.size = s.heap.objs.size + 1 := Heap.size_push ..
      have ne1 : c ≠ (s.heap.push (bare w)).objs.size := by rw [sz]; exact Nat.ne_of_lt (Nat.lt_succ_of_lt cS)
      have out : s.heap.objs.size ∉ [(s.heap.push (bare w)).objs.size, c] := by
        rw [sz]
        simp only [List.mem_cons, List.not_mem_nil, or_false, not_or]
        exact ⟨Nat.ne_of_lt (Nat.lt_succ_self _), Nat.ne_of_gt cS⟩
      refine loop ((Walks.tuple calm3 _ c ne1 items).toS) s.heap.objs.size out xs nitems (by omega) (fun i v hv => ?_) items.size 0 _ [] (by omega)
        ⟨⟨_, Heap.get?_push_size _ rfl, rfl, rfl⟩, seq2.push _⟩ ?_ List.nodup_nil (fun x => by simp) (Nat.zero_le _) fun s' l mv hs nd mem => ?_
      · exact str_at txt i v (by rw [Array.getElem?_toList]; exact hv)
      · exact (has_bare w s.heap).at fun o e => Heap.get?_push_of_some _ e
      · obtain ⟨h', g', d', tk', os'⟩ := s'
        have e1 : g' = s.gens := mv.gens
        have e2 : d' = s.drawn := mv.drawn
        have e3 : os' = s.os := mv.os
        subst e1; subst e2; subst e3
        refine wpAny_pure (wpAny_pure ⟨rfl, h', tk', l, rfl, hs, nd, mem, fun b o e => ?_⟩)
        refine mv.heap b o (fun z => ?_) (Heap.get?_push_of_some _ (Heap.get?_push_of_some _ e))
        have lt := Heap.lt_size e
        simp only [List.mem_cons, List.not_mem_nil, or_false] at z
        rcases z with z | z
        · rw [z] at lt; exact absurd lt (Nat.lt_irrefl _)
        · rw [z, sz] at lt; exact absurd lt (Nat.not_lt.mpr (Nat.le_succ _))
    · match r₂, hr₂ with
      | .error e, hr₂ => exact hr₂
      | .ok (.ret r), hr₂ =>
        obtain ⟨rfl, h', tk, l, rfl, hs, nd, mem, kp⟩ := hr₂
        repeat (any_goals (first | assumption | wp_step))
        exact fin _ _ _ hs nd mem kp
end
end ST
namespace ST
open PySem PySem.Spec PyProof.Rows L2
theorem strs_all : ∀ (vs : List Value), (∀ v ∈ vs, ∃ x t, v = Value.str x t) → ∃ xs, StrsAre vs xs
  | [], _ => ⟨[], .nil⟩
  | v :: vs, h => by
    obtain ⟨x, t, rfl⟩ := h v List.mem_cons_self
    obtain ⟨xs, r⟩ := strs_all vs fun u hu => h u (List.mem_cons_of_mem _ hu)
    exact ⟨x :: xs, .cons x t r⟩
theorem strs_mem : ∀ {vs : List Value} {xs : List Str}, StrsAre vs xs → ∀ k, k ∈ xs ↔ ∃ v ∈ vs, Value.isStrOf k v = true
  | _, _, .nil, k => by simp
  | _, _, .cons n t r, k => by
    have ih := strs_mem r k
    rw [List.mem_cons, ih]
    constructor
    · rintro (rfl | ⟨v, h1, h2⟩)
      · exact ⟨_, List.mem_cons_self, by simp [Value.isStrOf]⟩
      · exact ⟨v, List.mem_cons_of_mem _ h1, h2⟩
    · rintro ⟨v, h1, h2⟩
      rcases List.mem_cons.mp h1 with rfl | h1
      · left
        have := Value.isStrOf_shape h2
        obtain ⟨t', e⟩ := this
        cases e; rfl
      · exact .inr ⟨v, h1, h2⟩
/-- as long, and all of it: the same but for the order -/
theorem perm_len {α : Type} [DecidableEq α] : ∀ {l m : List α}, l.Nodup → (∀ x ∈ l, x ∈ m) → m.length ≤ l.length → m.Perm l
  | [], m, _, _, le => by
    have : m = [] := List.eq_nil_of_length_eq_zero (by simpa using le)
    rw [this]
  | x :: l, m, nd, sub, le => by
    obtain ⟨n1, n2⟩ := List.nodup_cons.mp nd
    have hx : x ∈ m := sub x List.mem_cons_self
    have p1 : m.Perm (x :: m.erase x) := List.perm_cons_erase hx
    have e : m.length = (m.erase x).length + 1 := by rw [p1.length_eq]; rfl
    have le' : m.length ≤ l.length + 1 := le
    refine p1.trans (List.Perm.cons x (perm_len n2 (fun y hy => ?_) (by omega)))
    have hm := sub y (List.mem_cons_of_mem _ hy)
    exact (List.mem_erase_of_ne (fun z : y = x => n1 (z ▸ hy))).mpr hm
section
variable {P : Program} {w : World} {A : Around} {E : Value → Shared → Prop} {s : Shared}
theorem sort {a : Addr} {l : List Str} {Q : Value → Shared → Prop} (hs : Has P w s.heap a l) (nd : l.Nodup) (calm : A.handled = none) (few : l.length < 64)
    (fin : ∀ s' p c (ys : List Str) (vs : List Value), (∀ b o, s.heap.get? b = some o → s'.heap.get? b = some o) → s'.gens = s.gens → s'.os = s.os → s.heap.objs.size ≤ p → s'.heap.get? p = some (seqObj "list" vs.toArray c) → StrsAre vs ys → ys.Perm l → sortedS ys = true → Q (.ref p) s') :
    wpAny (model P w) A (call (.builtin "sorted") [.ref a]) Q E s := by
  obtain ⟨⟨es, ep, t⟩, ho, T, ris, led⟩ := hs
  have n0 : es.size = l.length := T.sz
  refine Calls.call_function_entry kind_sorted plain_sorted entry_sorted (args_sorted1 _) ?_
  unfold Builtin.«sorted»
  refine wpAny_bind (m := checkCount "sorted" 1 1 _) (wpAny_pure ?_)
  refine wpAny_bind (collect_set (A := A.in1) calm ⟨_, ho, rfl, rfl⟩ T.fit (by show es.size < _; unfold scanBound; omega) ris led fun s1 vs k1 z1 g1 o1 pm => ?_)
  have len : vs.length = l.length := by rw [pm.length_eq, List.length_map, Array.length_toList]; exact n0
  have txt : ∀ v ∈ vs, ∃ x t, v = Value.str x t := fun v hv => by
    obtain ⟨e, he, q⟩ := List.mem_map.mp (pm.mem_iff.mp hv)
    obtain ⟨⟨k, hk, _⟩, _⟩ := T.el e he
    obtain ⟨tk, q2⟩ := Value.isStrOf_shape (x := k) (v := e.2) hk
    exact ⟨k, tk, by rw [← q]; exact q2⟩
  obtain ⟨xs, hx⟩ := strs_all vs txt
  have px : xs.Perm l := by
    refine perm_len nd (fun k hk => ?_) (by rw [← StrsAre.len_eq hx, len]; exact Nat.le_refl _)
    obtain ⟨e, he, q⟩ := (T.mem k).mp hk
    exact (strs_mem hx k).mpr ⟨e.2, pm.mem_iff.mpr (List.mem_map_of_mem he), q⟩
  refine wpAny_bind (wpAny_newList ?_ (by rw [len, sizeLine_eq]; omega))
  have got : (s1.heap.push (seqObj "list" vs.toArray 0)).get? s1.heap.objs.size = some (seqObj "list" vs.toArray 0) := Heap.get?_push_size _ rfl
  refine wpAny_bind (wpAny_holding (wpAny_call_entry slot_list_sort ⟨_, got, rfl⟩ entry_list_sort
    (list_sort_treeK strKind_oneLt (s := { s1 with heap := s1.heap.push (seqObj "list" vs.toArray 0) }) got hx.keysOf (fun v₁ v₂ rest e => keyKind_strs (by rw [← e]; exact hx)) (by rw [len]; exact few) fun st' hp hso => ⟨_, rfl, ?_⟩) (args_list_sort _)))
  obtain ⟨ys, y1, y2, y3⟩ := sorted_out_str hx hp hso
  obtain ⟨c, hc⟩ := sortedHeap_at (vs := vs) (out := (arrOf st').map (·.2)) got
  refine wpAny_pure ⟨_, rfl, fin _ s1.heap.objs.size c ys ((arrOf st').map (·.2)).toList (fun b o e => ?_) g1 o1 z1 (by rw [Array.toArray_toList]; exact hc) y1 (y2.trans px) y3⟩
  have q := k1 b o e
  have lt := Heap.lt_size q
  show (sortedHeap (s1.heap.push (seqObj "list" vs.toArray 0)) s1.heap.objs.size vs ((arrOf st').map (·.2))).get? b = some o
  rw [sortedHeap_old (Nat.ne_of_lt lt) (by rw [size_push']; exact Nat.lt_succ_of_lt lt)]
  exact Heap.get?_push_of_some _ q
end
end ST
namespace ST
open PySem PySem.Spec PyProof.Rows L2
theorem strs_of : ∀ {ys : List Str} {us : List Value}, Vals (ys.map V.str) us → StrsAre us ys
  | [], _, .nil => .nil
  | _ :: _, _, .cons ⟨k, rfl⟩ t => .cons _ k (strs_of t)
theorem vals_of : ∀ {us : List Value} {ys : List Str}, StrsAre us ys → Vals (ys.map V.str) us
  | _, _, .nil => .nil
  | _, _, .cons n t r => .cons ⟨t, rfl⟩ (vals_of r)
/-- sorted(set(xs)), xs a list or a tuple of fewer than 64 texts -/
def tSortSet (K : PySem.W.Frag) (ta : TE) : TE := fun σ H Q => ta σ H fun x H1 => ∃ (c : Addr) (xs : List Str), x = .ref c ∧ (SqL K H1 c (xs.map V.str) ∨ SqT K H1 c (xs.map V.str)) ∧ xs.length < 64 ∧
  ∀ (ys : List Str) (p : Addr), ys.Nodup → (∀ k, k ∈ ys ↔ k ∈ xs) → sortedS ys = true → H1 p = none → Q (.ref p) (upd H1 p (.lst (ys.map V.str)))
theorem nodup_sub {α : Type} [DecidableEq α] : ∀ {l m : List α}, l.Nodup → (∀ x ∈ l, x ∈ m) → l.length ≤ m.length
  | [], m, _, _ => Nat.zero_le _
  | x :: l, m, nd, sub => by
    obtain ⟨n1, n2⟩ := List.nodup_cons.mp nd
    have hx : x ∈ m := sub x List.mem_cons_self
    have e : m.length = (m.erase x).length + 1 := by rw [(List.perm_cons_erase hx).length_eq]; rfl
    have := nodup_sub (m := m.erase x) n2 fun y hy => (List.mem_erase_of_ne (fun z : y = x => n1 (z ▸ hy))).mpr (sub y (List.mem_cons_of_mem _ hy))
    show l.length + 1 ≤ _
    omega
section
variable {X : Cx}
theorem pe_sortSet {a : Expr} {ta : TE} {p p2 q pos : Pos} (hc : X.calm = true) (hg : Gl X "sorted") (hm : X.mg "sorted" = none) (hg2 : Gl X "set") (hm2 : X.mg "set" = none) (ha : PE X a ta)
    (na : starEach [a] X.env = (false, eval a X.env) :: starEach [] X.env := by rfl) : PE X (.Call (.Name "sorted" p) [.Call (.Name "set" p2) [a] [] q] [] pos) (tSortSet X.K ta) := by
  refine ⟨fun pins s σ H Q I h => ?_⟩
  refine Call_ (ld_blt I hg hm boot_sorted ?_)
  refine callWith_builtin1 (args_cons ?_ rfl) rfl rfl
  refine Call_ (ld_blt I hg2 hm2 boot_set ?_)
  refine callWith_type1 (args_cons (thn (ha.run pins s σ H _ I h) fun v s1 ⟨x, H1, I1, r1, q1⟩ => args_nil ?_) na) na rfl
  obtain ⟨c, xs, rfl, hq, few, q1⟩ := q1
  cases r1
  have calm := I1.ok.hd hc
  have fin : ∀ (s2 : Shared) l, Has X.prog X.w s2.heap s1.heap.objs.size l → l.Nodup → (∀ x, x ∈ l ↔ x ∈ xs) → Inv X pins σ H1 s2 →
      wpAny (model X.prog X.w) X.A (spliced (backTo pos (starEach [] X.env))) (fun vs s₂ => wpAny (model X.prog X.w) X.A (call (.builtin "sorted") (Value.ref s1.heap.objs.size :: vs)) (EP X pins σ Q) X.xe s₂) X.xe s2 := fun s2 l hs nd mem I2 => by
    refine args_nil ?_
    have le : l.length ≤ xs.length := nodup_sub nd fun x hx => (mem x).mp hx
    refine sort hs nd calm (by omega) fun s' p c ys vs k2 g o hp hg' hv pm so => ?_
    have hlen : (ys.map V.str).length ≤ sizeLine := by rw [List.length_map, pm.length_eq, sizeLine_eq]; omega
    have hn : H1 p = none := I2.hok.fresh hp
    have J : Inv X pins σ (upd H1 p (.lst (ys.map V.str))) { s2 with heap := s'.heap, gens := s'.gens, drawn := s'.drawn, toks := s'.toks } :=
      I2.call (ch := []) (Un.laid k2 hp hn) (I2.hok.laid k2 hp ⟨hlen, vs, _, vals_of hv, hg'⟩) (by rw [g]; exact I2.bare) (fun _ z => nomatch z)
    have e : s' = { s2 with heap := s'.heap, gens := s'.gens, drawn := s'.drawn, toks := s'.toks } := by
      cases s'
      cases s2
      cases o
      rfl
    rw [e]
    exact ⟨.ref p, _, J, rfl, q1 ys p (pm.nodup_iff.mpr nd) (fun k => pm.mem_iff.trans (mem k)) so hn⟩
  have small : xs.length + 1 < scanBound := by unfold scanBound; omega
  rcases hq with hq | hq
  · obtain ⟨its, r, pl, hz⟩ := I1.list hq
    exact make_list calm pl.isList (by simpa using strs_of r) small fun h' tk l hs nd mem kp => fin _ l hs nd mem (I1.kept kp)
  · obtain ⟨its, r, pl, hz⟩ := I1.tuple hq
    exact make_tuple calm pl (by simpa using strs_of r) small fun h' tk l hs nd mem kp => fin _ l hs nd mem (I1.kept kp)
end
end ST

set_option Elab.async false
set_option linter.all false
set_option maxRecDepth 100000
set_option maxHeartbeats 4000000
/-! ### sorted(set(..)) of texts, over trees -/
namespace Z
open PySem PySem.Spec PyProof.Rows L2
def txtOf (l : List Nat) : Str := ⟨l.toArray⟩
theorem txt_cl (z : Str) : txtOf (cl z) = z := str_eq.mpr rfl
/-- texts that rise -/
def risen (l : List (List Nat)) : Bool := sortedS (l.map txtOf)
def dSortSet (d : DTE) : DTE := fun S C Q => d S C fun x C1 => match rdQ x C1 with
  | some l => ∃ ws : List (List Nat), l = ws.map D.str ∧ ws.length < 64 ∧ ∀ ys : List (List Nat), ys.Nodup → (∀ k, k ∈ ys ↔ k ∈ ws) → risen ys = true → Q (.cel C1.length) (C1 ++ [.lst (ys.map D.str)])
  | none => False
theorem reps_txt {K : PySem.W.Frag} {W : Wd} : ∀ {ws : List (List Nat)} {us : List V}, Reps K W us (ws.map D.str) → ∃ xs : List Str, us = xs.map V.str ∧ xs.map cl = ws
  | [], us, h => by cases h; exact ⟨[], rfl, rfl⟩
  | w :: ws, us, h => by
    cases h with
    | cons u d us ds r t =>
      obtain ⟨xs, rfl, e⟩ := reps_txt t
      obtain ⟨z, rfl, rfl⟩ := rep_str r
      exact ⟨z :: xs, rfl, by rw [List.map_cons, e]⟩
theorem txt_reps {K : PySem.W.Frag} {W : Wd} : ∀ ys : List Str, Reps K W (ys.map V.str) ((ys.map cl).map D.str)
  | [] => .nil
  | y :: ys => .cons _ _ _ _ (rep_of rfl) (txt_reps ys)
section
variable {K : PySem.W.Frag} [Gd K] {X : Cx} {a : Expr} {ta : TE} {da : DTE} {p p2 q pos : Pos}
theorem qe_sortSet (hc : X.calm = true) (hK : X.K = K) (hg : Gl X "sorted") (hm : X.mg "sorted" = none) (hg2 : Gl X "set") (hm2 : X.mg "set" = none) (ha : QE K X a ta da)
    (na : starEach [a] X.env = (false, eval a X.env) :: starEach [] X.env := by rfl) : QE K X (.Call (.Name "sorted" p) [.Call (.Name "set" p2) [a] [] q] [] pos) (ST.tSortSet K ta) (dSortSet da) :=
  ⟨by subst hK; exact ST.pe_sortSet hc hg hm hg2 hm2 ha.p na, fun W S C σ st QD Q q k => ha.r W S C σ st _ _ q fun v x W1 C1 e1 s1 r1 q1 => by
    split at q1
    · rename_i l hl
      obtain ⟨ws, rfl, few, q2⟩ := q1
      obtain ⟨c, us, rfl, h1, h2⟩ := rdQ_ok s1.m r1 hl
      obtain ⟨xs, rfl, rfl⟩ := reps_txt h2
      refine ⟨c, xs, rfl, h1, by rwa [List.length_map] at few, fun ys p nd mem so hp => ?_⟩
      have inj : ∀ a b : Str, cl a = cl b → a = b := fun a b e => str_eq.mpr e
      refine KV.newL k e1 s1 (txt_reps ys) hp (q2 (ys.map cl) (nd.map cl fun a b ne e => ne (inj a b e)) (fun z => ?_) ?_)
      · rw [List.mem_map, List.mem_map]
        exact ⟨fun ⟨y, h, e⟩ => ⟨y, (mem y).mp h, e⟩, fun ⟨y, h, e⟩ => ⟨y, (mem y).mpr h, e⟩⟩
      · unfold risen
        rw [List.map_map, show txtOf ∘ cl = id from funext txt_cl, List.map_id]
        exact so
    · exact q1.elim⟩
end
end Z

set_option Elab.async false
set_option linter.all false
set_option maxRecDepth 100000
set_option maxHeartbeats 4000000
/-! ### the truth of an instance with its own __len__ -/
namespace ZBl
open PySem PySem.Spec PyProof.Rows
section
variable {prog : Program} {w : World} {A : Around} {E : Value → Shared → Prop} {s : Shared} {K : PySem.W.Frag} {x C f : Addr} {ox : Obj} {od : Option Obj}
/-- what comes of the own __len__ -/
def Len (Q : Bool → Shared → Prop) (r : Value) (s' : Shared) : Prop := ∃ n t, r = .int n t ∧ 0 ≤ n ∧ n < 2 ^ 63 ∧ Q (n != 0) { s' with toks := s'.toks + 1 }
theorem truth {Q : Bool → Shared → Prop} (kin : K.In s.heap) (inst : PySem.W.InstAt s.heap x ox C od) (nb : PySem.W.findIn K (.ref C) "__bool__" = some none) (ln : PySem.W.findIn K (.ref C) "__len__" = some (some (.ref f))) (fn : PySem.W.isFn K (.ref f) = true)
    (h : wpAny (model prog w) A.in1 (call (.ref f) [.ref x]) (Len Q) E s) : wpAny (model prog w) A (truthy (.ref x)) Q E s := by
  have len : wpAny (model prog w) A (runValue (.builtin "len" ⟨[.ref x], []⟩)) (fun r s' => ∃ n t, r = .int n t ∧ Q (n != 0) s') E s := by
    refine wpAny_runValue (codeAny_builtin entry_len ?_)
    rw [Around.under_plainId plain_len _]
    refine wpAny_mono (Q := fun fin s' => ∃ n t, fin = .done (.ret (.int n t)) ∧ Q (n != 0) s') ?_ (fun fin s' z => by obtain ⟨n, t, rfl, q⟩ := z; exact ⟨n, t, rfl, q⟩) fun _ _ e => e
    unfold Builtin.«len»
    refine wpAny_bind (m := oneArg "len" _) (wpAny_pure ?_)
    refine wpAny_bind (m := callSpecial? (.ref x) (Str.ofString "__len__")) (PySem.W.special_fn kin inst ln (beq_iff_eq.mp fn) (wpAny_mono h (fun r s' z => ?_) fun _ _ e => e))
    obtain ⟨n, t, rfl, n0, n1, q⟩ := z
    refine wpAny_bind (wpAny_holding (wpAny_pure ?_))
    refine wpAny_bind (wpAny_letGo ?_)
    show wpAny _ _ (if n < 0 then _ else _) _ _ _
    rw [if_neg (by omega)]
    show wpAny _ _ (if n ≥ 2 ^ 63 then _ else _) _ _ _
    rw [if_neg (by omega)]
    exact wpAny_bind (wpAny_mkInt (wpAny_pure ⟨n, _, rfl, q⟩))
  have has : ∀ {Q' : Option Value → Shared → Prop}, Q' (some (.ref f)) s → wpAny (model prog w) A (specialOf (.ref x) "__len__") Q' E s := fun q => by
    unfold specialOf
    exact wpAny_bind (inst.type.here ((PySem.W.looks_findIn kin ln).here q))
  unfold truthy
  first
    | refine wpAny_bind (DSub.special_no kin inst nb ?_)
    | refine wpAny_bind (wpAny_pure (wpAny_bind (DSub.special_no kin inst nb ?_)))
  refine wpAny_bind (has ?_)
  refine wpAny_bind (wpAny_mono len (fun r s' z => ?_) fun _ _ e => e)
  obtain ⟨n, t, rfl, q⟩ := z
  exact wpAny_pure q
end
end ZBl
namespace ZBl
open PySem PySem.Spec PyProof.Rows
section
variable {prog : Program} {w : World} {A : Around} {E : Value → Shared → Prop} {s : Shared} {x : Addr}
theorem boolNew (x : Addr) : MeetsIn prog w (Builtin.«bool.__new__» ⟨[.type "bool", .ref x], []⟩) (fun A R s => wpAny (model prog w) A.in1 (truthy (.ref x)) (fun b s' => R (.ok (.ret (.bool b))) s') (fun e s' => R (.error e) s') s) :=
  .of_wp fun A R s h => by
    have sub := F.conv_sub_bool
    obtain ⟨hp, g, d, tk, os⟩ := s
    unfold Builtin.«bool.__new__»
    generalize hT : truthy = T at h ⊢
    repeat (any_goals (first | assumption | wp_step))
    refine wpAny_mono h (fun b s' z => ?_) fun _ _ e => e
    exact wpAny_pure ⟨_, rfl, z⟩
theorem boolOwn {Q : Value → Shared → Prop} (h : wpAny (model prog w) A.in1.in1 (truthy (.ref x)) (fun b s' => Q (.bool b) s') E s) : wpAny (model prog w) A (call (.type "bool") [.ref x]) Q E s :=
  callType_newIn F.called_bool F.newNe_bool (F.typeCall_bool_1 _) (F.newCall_bool_1 _) (fun obj => F.args_object_init_2 obj _) F.entry_bool_new (boolNew x)
    (wpAny_mono h (fun b s' q => ⟨rfl, q⟩) fun _ _ e => e)
end
end ZBl
namespace Z
open PySem PySem.Spec PyProof.Rows L2
section
variable {X : Cx} {CX : CXT} {k j : Nat} {c : Str} {E : XK}
def rOwnTruth (K : PySem.W.Frag) (c : Str) (sp : Sp) (E : XK) : List V → Hp → VK → Prop := fun xs H Q => ∃ a dx fs, xs = [.ref a] ∧ H a = some (.ins (He.ga K c) dx fs) ∧ sp [.ref a] H (fun v H' => lenV v ∧ ∀ n, v = .int n → Q (.bl (n != 0)) H') E
theorem cr_ownBool {sp : Sp} (h : MethC X.prog X.w X.K X.mg X.base CX k c "__len__" sp []) (nb : PySem.W.findIn X.K (.ref (He.ga X.K c)) "__bool__" = some none) (hr : Room j X.A) (hk : k + 3 ≤ j) (hx : Passes CX X E) : CallR X (.type "bool") (rOwnTruth X.K c sp E) := by
  intro pins s σ H xs us Q I r q
  obtain ⟨a, dx, fs, rfl, ha, q⟩ := q
  obtain ⟨f, fd, ps, ds, cl, me, F, b, v⟩ := h
  cases v
  obtain rfl := Vals.ref1 r
  obtain ⟨mA, J, _⟩ := ins_get I.hok ha
  obtain ⟨od, J, _⟩ := J.look
  refine ZBl.boolOwn (ZBl.truth I.kIn J nb me.at_ me.fn (wpAny_mono (own_call1 F b hx ((hr.mono hk).in1.in1.in1) rfl I (show RelV (.ref a) (.ref a) from rfl) q) (fun r s' z => ?_) fun _ _ e => e))
  obtain ⟨y, H', I', ry, hP, q'⟩ := z
  cases y with
  | int n =>
    obtain ⟨t, rfl⟩ := ry
    have h1 : (2 : Int) ^ 62 < 2 ^ 63 := by decide
    exact ⟨n, t, rfl, hP.1, Int.lt_trans hP.2 h1, .bl (n != 0), H', I'.tok _, rfl, q' n rfl⟩
  | _ => exact hP.elim
end
end Z
namespace Z
open PySem PySem.Spec PyProof.Rows L2
/-- bool(x), x an instance with its own __len__ -/
def dOwnTruth (c : Str) (mds : List Md) (d : DSp) : DRA := fun xs C Q => match xs with
  | [x] => (match kindX x C with | some (.own c') => c' = c | _ => False) ∧ callD mds d [x] C fun r C' => ∃ n : Int, r = .of (.int n) ∧ 0 ≤ n ∧ n < 2 ^ 62 ∧ Q (.of (.bl (n != 0))) C'
  | _ => False
section
variable {K : PySem.W.Frag} [Gd K] {X : Cx} {CX : CXT} {k j : Nat} {c : Str} {mds : List Md} {d : DSp} {E : XK}
theorem refC_ownTruth : RefC K 1 (rOwnTruth K c (rawSp K 1 d) E) (dOwnTruth c mds d) := fun W S C σ st vs xs QD Q hlen r q kk => by
  unfold dOwnTruth at q
  split at q
  · rename_i x
    obtain ⟨q1, q2⟩ := q
    split at q1
    · rename_i c' hx
      subst q1
      obtain ⟨v, rfl, r0⟩ := repVs1 r
      obtain ⟨a, dx, fs, rfl, ha⟩ := ins_of st.m r0 hx
      refine ⟨a, dx, fs, rfl, ha, call_ok (Q := fun v H' => lenV v ∧ ∀ n, v = .int n → Q (.bl (n != 0)) H') st (.cons _ _ _ _ r0 .nil) rfl q2 fun v x W' C' e' s' r' q' => ?_⟩
      obtain ⟨n, rfl, n0, n1, q'⟩ := q'
      cases r'
      exact ⟨⟨n0, n1⟩, fun m em => by cases em; exact kk _ (.of (.bl (n != 0))) W' C' e' s' (.bl _) q'⟩
    · exact q1.elim
  · exact q.elim
theorem cq_ownBool (h : MethC X.prog X.w K X.mg X.base CX k c "__len__" (rawSp K 1 d) []) (nb : PySem.W.findIn K (.ref (He.ga K c)) "__bool__" = some none) (hr : Room j X.A) (hk : k + 3 ≤ j) (hx : Passes CX X E) (hK : X.K = K) :
    QC K X (.type "bool") 1 (rOwnTruth K c (rawSp K 1 d) E) (dOwnTruth c mds d) := ⟨by subst hK; exact cr_ownBool h nb hr hk hx, refC_ownTruth⟩
end
end Z

set_option Elab.async false
set_option linter.all false
set_option maxRecDepth 100000
set_option maxHeartbeats 4000000
/-! ### str and repr of texts, f-strings with !r -/
namespace Z
open PySem PySem.Spec PyProof.Rows L2
/-- the repr of a text, as codes -/
def repT (l : List Nat) : List Nat := cl (reprText (txtOf l))
def dStrS : DRA := fun xs C Q => match xs with | [.of (.str l)] => Q (.of (.str l)) C | _ => False
def dRepS : DRA := fun xs C Q => match xs with | [.of (.str l)] => Z16 (repT l).length ∧ Q (.of (.str (repT l))) C | _ => False
def dFmtR (d : DTE) : DTE := fun S C Q => d S C fun x C1 => match x with | .of (.str l) => Z16 (repT l).length ∧ Q (.of (.str (repT l))) C1 | _ => False
def dJs : List DTE → List Nat → Sl → Cs → (List Nat → Cs → Prop) → Prop
  | [], acc, _, C, Q => Q acc C
  | d :: ds, acc, S, C, Q => d S C fun x C1 => match x with | .of (.str l) => Z16 (acc ++ l).length ∧ dJs ds (acc ++ l) S C1 Q | _ => False
def dJoined (ds : List DTE) : DTE := fun S C Q => dJs ds [] S C fun l C1 => Q (.of (.str l)) C1
section
variable {K : PySem.W.Frag} [Gd K] {X : Cx} {S : Sl} {σ : L2.St}
theorem cr_repr_str : CallR X (.builtin "repr") (fun xs H Q => ∃ z, xs = [.str z] ∧ (reprText z).length ≤ sizeLine ∧ Q (.str (reprText z)) H) := by
  intro pins s σ H xs us Q I r h
  obtain ⟨z, rfl, hz, q⟩ := h
  obtain ⟨u, rfl, t, rfl⟩ := vals1 r
  exact PySem.P.repr_of_str (hsz := hz) ⟨.str _, H, I.tok _, ⟨_, rfl⟩, q⟩
theorem cq_str_str : QC K X (.type "str") 1 (fun xs H Q => ∃ a, xs = [.str a] ∧ Q (.str a) H) dStrS := ⟨SkE.call_str_str, fun W S C σ st vs xs QD Q hlen r q k => by
  unfold dStrS at q
  split at q
  · obtain ⟨v, rfl, r0⟩ := repVs1 r
    obtain ⟨z, rfl, rfl⟩ := rep_str r0
    exact ⟨z, rfl, k.here st (rep_of rfl) q⟩
  · exact q.elim⟩
theorem cq_repr_str : QC K X (.builtin "repr") 1 (fun xs H Q => ∃ z, xs = [.str z] ∧ (reprText z).length ≤ sizeLine ∧ Q (.str (reprText z)) H) dRepS := ⟨cr_repr_str, fun W S C σ st vs xs QD Q hlen r q k => by
  unfold dRepS at q
  split at q
  · obtain ⟨v, rfl, r0⟩ := repVs1 r
    obtain ⟨z, rfl, rfl⟩ := rep_str r0
    obtain ⟨q1, q2⟩ := q
    have e : repT (cl z) = cl (reprText z) := by unfold repT; rw [txt_cl]
    rw [e] at q1 q2
    exact ⟨z, rfl, line_of (by rw [← cl_len]; exact q1), k.here st (rep_of rfl) q2⟩
  · exact q.elim⟩
theorem qe_fmtR {e : Expr} {te : TE} {de : DTE} {pos : Pos} (h : QE K X e te de) : QE K X (.FormattedValue e 114 none pos) (tFmtR te) (dFmtR de) := ⟨pe_fmtR h.p, fun W S C σ st QD Q q k => h.r W S C σ st _ _ q fun v x W1 C1 e1 s1 r1 q1 => by
  split at q1
  · obtain ⟨z, rfl, rfl⟩ := rep_str r1
    obtain ⟨q1, q2⟩ := q1
    have e : repT (cl z) = cl (reprText z) := by unfold repT; rw [txt_cl]
    rw [e] at q1 q2
    exact .inl ⟨z, rfl, line_of (by rw [← cl_len]; exact q1), k.at e1 s1 (rep_of rfl) q2⟩
  · exact q1.elim⟩
inductive QJ (K : PySem.W.Frag) [Gd K] (X : Cx) : List Expr → List TE → List DTE → Prop
  | nil : QJ K X [] [] []
  | cons {e : Expr} {t : TE} {d : DTE} {es : List Expr} {ts : List TE} {ds : List DTE} (h : QE K X e t d) (r : QJ K X es ts ds) : QJ K X (e :: es) (t :: ts) (d :: ds)
theorem QJ.raw {es : List Expr} {ts : List TE} {ds : List DTE} (h : QJ K X es ts ds) : PJ X es ts := by
  induction h with
  | nil => exact .nil
  | cons h r ih => exact .cons h.p ih
theorem QJ.run {es : List Expr} {ts : List TE} {ds : List DTE} (h : QJ K X es ts ds) : ∀ {W : Wd} {S : Sl} {C : Cs} {σ : L2.St} {acc : Str} {QD : List Nat → Cs → Prop} {Q : Str → Hp → Prop}, Sta K W S C σ → dJs ds (cl acc) S C QD →
    (∀ (z : Str) W' C', Ext W W' → Sta K W' S C' σ → QD (cl z) C' → Q z W'.H) → tJs ts acc σ W.H Q := by
  induction h with
  | nil => exact fun st q k => k _ _ _ .refl st q
  | cons h r ih =>
    intro W S C σ acc QD Q st q k
    refine h.r W S C σ st _ _ q fun v x W1 C1 e1 s1 r1 q1 => ?_
    split at q1
    · obtain ⟨z, rfl, rfl⟩ := rep_str r1
      obtain ⟨q1, q2⟩ := q1
      have e : cl acc ++ cl z = cl (acc ++ z) := (cl_append acc z).symm
      rw [e] at q1 q2
      exact ⟨z, rfl, line_of (by rw [← cl_len]; exact q1), ih s1 q2 fun z' W' C' e' s' q' => k z' W' C' (e1.trans e') s' q'⟩
    · exact q1.elim
theorem qe_joined {v1 v2 : Expr} {rest : List Expr} {ts : List TE} {ds : List DTE} {pos : Pos} (h : QJ K X (v1 :: v2 :: rest) ts ds) : QE K X (.JoinedStr (v1 :: v2 :: rest) pos) (fun σ H Q => tJs ts Str.empty σ H fun out H1 => Q (.str out) H1) (dJoined ds) :=
  ⟨pe_joined h.raw, fun W S C σ st QD Q q k => h.run (acc := Str.empty) st q fun z W' C' e' s' q' => k.at e' s' (rep_of rfl) q'⟩
end
end Z

set_option Elab.async false
set_option linter.all false
set_option maxRecDepth 100000
set_option maxHeartbeats 4000000
/-! ### x in l, where == of the items may run the text's own code -/
namespace GC
open PySem PySem.SeqAt
open AutoSeq1 (wpAny_loadPart')
open MeetsSeq MeetsSeq2 MeetsSeq3 SeqRoads2
section
variable {prog : Program} {w : World} {A : Around} {E : Value → Shared → Prop} {R : Result → Shared → Prop}
/-- at each turn the list is read anew; Y: behind an equal item -/
def Seeks (prog : Program) (w : World) (A : Around) (E : Value → Shared → Prop) (l : Addr) (x : Value) (N : Nat) (I : Nat → Shared → Prop) (Y : Shared → Prop) : Prop :=
  ∀ i s, I i s → ∃ (items : Array Value) (n : Nat), s.heap.get? l = some { cls := .type "list", data := .seq items n } ∧ items.size = N ∧
    ∀ h : i < items.size, wpAny (model prog w) A.in1 (eqBool items[i] x) (fun r s' => (r = true ∧ Y s') ∨ (r = false ∧ I (i + 1) s')) E s
theorem seek (l : Addr) (x : Value) (N : Nat) (I : Nat → Shared → Prop) (Y : Shared → Prop) (hs : Seeks prog w A (fun e s' => R (.error e) s') l x N I Y)
    (yes : ∀ s, Y s → R (.ok (.ret (.bool true))) s) (no : ∀ s, I N s → R (.ok (.ret (.bool false))) s) : ∀ (m i : Nat), N = i + m → ∀ s, I i s →
      wpAny (model prog w) A.in1 (Builtin.«list.__contains__.loop» ⟨[.ref l, x, rawInt i], []⟩) (GQ.FinOf prog w A R) (fun e s' => R (.error e) s') s
  | 0, i, e, s, h => by
    obtain ⟨items, n, hl, hz, _⟩ := hs _ _ h
    have q : R (.ok (.ret (.bool false))) s := no s (by rw [e]; exact h)
    have none : items[((i : Nat) : Int).toNat]? = none := by simp; omega
    obtain ⟨hp, g, d, tk, os⟩ := s
    wp_walk using wpAny_loadPart' hl
    rw [none]
    wp_walk
    exact q
  | m + 1, i, e, s, h => by
    obtain ⟨items, n, hl, hz, turn⟩ := hs _ _ h
    have lt : i < items.size := by omega
    have step := turn lt
    have some_ : items[((i : Nat) : Int).toNat]? = some items[i] := by simp [lt]
    have next : ((i : Int) + 1) = ((i + 1 : Nat) : Int) := rfl
    obtain ⟨hp, g, d, tk, os⟩ := s
    wp_walk using wpAny_loadPart' hl
    rw [some_]
    refine wpAny_bind (wpAny_mono step (fun r s2 z => ?_) fun _ _ z => z)
    rcases z with ⟨rfl, z⟩ | ⟨rfl, z⟩
    · have q := yes s2 z
      obtain ⟨hp2, g2, d2, tk2, os2⟩ := s2
      wp_walk
      exact q
    · have q := seek l x N I Y hs yes no m (i + 1) (by omega) s2 z
      obtain ⟨hp2, g2, d2, tk2, os2⟩ := s2
      wp_walk
      rw [next]
      exact ⟨plainId_quiet plain_contains_loop _, codeAny_builtin entry_contains_loop (by
        rw [Around.under_plainId plain_contains_loop _]
        exact q)⟩
theorem within {l : Addr} {x : Value} {N : Nat} {Q : Bool → Shared → Prop} {s : Shared} (I : Nat → Shared → Prop) (Y : Shared → Prop) (hs : Seeks prog w A E l x N I Y)
    (yes : ∀ s, Y s → Q true s) (no : ∀ s, I N s → Q false s) (h : I 0 s) : wpAny (model prog w) A (contains (.ref l) x) Q E s := by
  obtain ⟨items, n, hl, hz, _⟩ := hs _ _ h
  refine wpAny_contains_slot ⟨_, hl, rfl⟩ F.slot_list_contains (wpAny_mono (GQ.call_here (Q := fun v s' => ∃ b, v = .bool b ∧ Q b s') F.slot_list_contains ⟨_, hl, rfl⟩ F.entry_list_contains (F.args_list_contains_2 _ _) ?_) (fun v s' z => ?_) fun _ _ e => e)
  · have q := seek (A := A) (R := wants (fun v s' => ∃ b, v = .bool b ∧ Q b s') E) l x N I Y hs (fun s z => ⟨true, rfl, yes s z⟩) (fun s z => ⟨false, rfl, no s z⟩) N 0 (by omega) s h
    obtain ⟨hp, g, d, tk, os⟩ := s
    wp_walk using wpAny_loadPart' hl
    exact ⟨plainId_quiet plain_contains_loop _, codeAny_builtin entry_contains_loop (by
      rw [Around.under_plainId plain_contains_loop _]
      exact q)⟩
  · obtain ⟨b, rfl, q⟩ := z
    exact wpAny_truthy_bool q
end
end GC
namespace GC
open PySem PySem.SeqAt
open AutoSeq1 (wpAny_loadPart')
open MeetsSeq MeetsSeq2 MeetsSeq3 SeqRoads2
section
variable {prog : Program} {w : World} {A : Around} {E : Value → Shared → Prop} {R : Result → Shared → Prop}
theorem seekT (l : Addr) (x : Value) (items : Array Value) (n : Nat) (dd : Option Addr) (sl : Array (Option Value)) (I : Nat → Shared → Prop) (Y : Shared → Prop)
    (turn : ∀ i (h : i < items.size) s, I i s → wpAny (model prog w) A.in1 (eqBool items[i] x) (fun r s' => (r = true ∧ Y s') ∨ (r = false ∧ I (i + 1) s')) (fun e s' => R (.error e) s') s)
    (yes : ∀ s, Y s → R (.ok (.ret (.bool true))) s) (no : ∀ s, I items.size s → R (.ok (.ret (.bool false))) s) {s : Shared} (hl : s.heap.get? l = some { cls := .type "tuple", dict := dd, data := .seq items n, slots := sl }) (h : I 0 s) :
    wpAny (model prog w) A.in1 (Builtin.«tuple.__contains__» ⟨[.ref l, x], []⟩) (GQ.FinOf prog w A R) (fun e s' => R (.error e) s') s := by
  have h0 := h
  obtain ⟨hp, g, d, tk, os⟩ := s
  wp_walk using wpAny_loadPart' hl, wpAny_forIn_array _ (fun rest b s' => b.1 = none ∧ ∃ i, rest = items.toList.drop i ∧ i ≤ items.size ∧ I i s') _
  case turn =>
    rintro y rest b s' ⟨hb, i, hz, hi, hI⟩
    have lt : i < items.size := by
      rcases Nat.lt_or_ge i items.size with q | q
      · exact q
      · rw [List.drop_of_length_le (by simpa using q)] at hz; cases hz
    rw [List.drop_eq_getElem_cons (by simpa using lt)] at hz
    injection hz with hy hrest
    have ey : y = items[i] := by simpa using hy
    subst ey
    refine wpAny_bind (wpAny_mono (turn i lt s' hI) (fun r s2 z => ?_) fun _ _ z => z)
    rcases z with ⟨rfl, z⟩ | ⟨rfl, z⟩
    · have q := yes _ z
      wp_walk
      exact q
    · wp_walk
      exact ⟨rfl, i + 1, hrest, lt, z⟩
  case fin =>
    rintro ⟨b1, b2⟩ s' ⟨hb, i, hz, hi, hI⟩
    simp only at hb
    subst hb
    have ge : items.size ≤ i := by
      rcases Nat.lt_or_ge i items.size with q | q
      · rw [List.drop_eq_getElem_cons (by simpa using q)] at hz; cases hz
      · exact q
    have e : i = items.size := by omega
    have q := no s' (e ▸ hI)
    wp_walk
    exact q
  case h => exact ⟨rfl, 0, rfl, Nat.zero_le _, h0⟩
theorem withinT {l : Addr} {x : Value} {items : Array Value} {Q : Bool → Shared → Prop} {s : Shared} (I : Nat → Shared → Prop) (Y : Shared → Prop) (hl : s.heap.IsTuple l items)
    (turn : ∀ i (h : i < items.size) s, I i s → wpAny (model prog w) A.in1 (eqBool items[i] x) (fun r s' => (r = true ∧ Y s') ∨ (r = false ∧ I (i + 1) s')) E s)
    (yes : ∀ s, Y s → Q true s) (no : ∀ s, I items.size s → Q false s) (h : I 0 s) : wpAny (model prog w) A (contains (.ref l) x) Q E s := by
  obtain ⟨⟨cls, dd, data, sl⟩, ho, hc, n, hd⟩ := id hl
  simp only at hc hd
  subst hc hd
  refine wpAny_contains_slot ⟨_, ho, rfl⟩ F.slot_tuple_contains (wpAny_mono (GQ.call_here (Q := fun v s' => ∃ b, v = .bool b ∧ Q b s') F.slot_tuple_contains ⟨_, ho, rfl⟩ F.entry_tuple_contains (F.args_tuple_contains_2 _ _) ?_) (fun v s' z => ?_) fun _ _ e => e)
  · exact seekT (A := A) (R := wants (fun v s' => ∃ b, v = .bool b ∧ Q b s') E) l x items n dd sl I Y turn (fun s z => ⟨true, rfl, yes s z⟩) (fun s z => ⟨false, rfl, no s z⟩) ho h
  · obtain ⟨b, rfl, q⟩ := z
    exact wpAny_truthy_bool q
end
end GC
namespace Z
open PySem PySem.Spec PyProof.Rows L2
/-- the first item that is equal -/
def inO (F : D → D → Option Bool) (x : D) : List D → Option Bool
  | [] => some false
  | d :: l => match F d x with
    | some true => some true
    | some false => inO F x l
    | none => none
def rInO (K : PySem.W.Frag) (own : Own) (ks : List Str) (n : Nat) (neg : Bool) : R2 := fun x y H Q => ∃ (a : D) (l : List D) (r : Bool) (p : Addr) (us : List V), Rep K (Wd0 H) x a ∧ y = .ref p ∧ (H p = some (.lst us) ∨ SqT K H p us) ∧ Reps K (Wd0 H) us l ∧ nvD ks a = true ∧ nvDs ks l = true ∧ inO (eqO own n) a l = some r ∧
  ∀ H', L2.Ext H H' → Q (.bl (cond neg (!r) r)) H'
section
variable {X : Cx} {CX : CXT} {k : Nat} {E : XK} {own : Own} {ks : List Str}
theorem turnIn {F : D → D → Option Bool} {m : Nat} (h : EqAtO X m F ks) {A : Around} (sb : Sub X (m + 1) A) {pins : List (Addr × Obj)} {σ : L2.St} {H : Hp} {l : List D} {a : D} {us : List V} {x : V} {u : Value} {its : List Value} {r : Bool} (nl : nvDs ks l = true) (na : nvD ks a = true) (pl : Reps X.K (Wd0 H) us l) (ra : Rep X.K (Wd0 H) x a) (rx : RelV x u) (rv : Vals us its)
    (i : Nat) (hi : i < its.toArray.size) (s' : Shared) (q : LoopO X pins σ H s' ∧ inO F a (l.drop i) = some r) :
    wpAny (model X.prog X.w) A.in1 (eqBool its.toArray[i] u) (fun z s2 => (z = true ∧ LoopO X pins σ H s2 ∧ r = true) ∨ (z = false ∧ LoopO X pins σ H s2 ∧ inO F a (l.drop (i + 1)) = some r)) X.xe s' := by
  obtain ⟨⟨H1, I1, e1⟩, hq⟩ := q
  have g1 : its[i]? = some its.toArray[i] := by
    have h1' : i < its.length := by simpa using hi
    rw [List.getElem?_eq_getElem h1'] <;> simp
  have k1 : i < us.length := by rw [rv.length]; simpa using hi
  obtain ⟨v, hv, rw_⟩ := rv.get (List.getElem?_eq_getElem k1)
  rw [g1] at hv
  rw [Option.some.inj hv]
  obtain ⟨d, ed, rd⟩ := pl.at' (List.getElem?_eq_getElem k1)
  have ll : i < l.length := (List.getElem?_eq_some_iff.mp ed).1
  rw [List.drop_eq_getElem_cons ll] at hq
  have fd : l[i] = d := by rw [List.getElem?_eq_getElem ll] at ed; exact Option.some.inj ed
  rw [fd] at hq
  unfold inO at hq
  have run := fun z hz => h A.in1 pins s' σ H1 _ _ v u d a z sb.in1 I1 rw_ rx (Rep.mono (pers0 e1) rd) (Rep.mono (pers0 e1) ra) (nvDs_at nl ed) na hz
  split at hq
  · rename_i hz
    refine wpAny_mono (run true hz) (fun z s2 q => ?_) fun _ _ x => x
    obtain ⟨rfl, H2, I2, e2⟩ := q
    exact .inl ⟨rfl, ⟨H2, I2, fun a o q => e2 a o (e1 a o q)⟩, (Option.some.inj hq).symm⟩
  · rename_i hz
    refine wpAny_mono (run false hz) (fun z s2 q => ?_) fun _ _ x => x
    obtain ⟨rfl, H2, I2, e2⟩ := q
    exact .inr ⟨rfl, ⟨H2, I2, fun a o q => e2 a o (e1 a o q)⟩, hq⟩
  · cases hq
theorem op_inO (O : OwnQ X.prog X.w X.K X.mg X.base CX k own ks) (hx : Passes CX X E) (n : Nat) (neg : Bool) (hr : Room (k + 2 + n + 1) X.A) : OpR X (compareOp (cond neg .NotIn .In)) (rInO X.K own ks n neg) := by
  intro pins s σ H x y v u Q I rx ry hq
  obtain ⟨a, l, r, p, us, ra, rfl, hy, hl, na, nl, hin, q⟩ := hq
  obtain rfl : u = Value.ref p := ry
  have eq := (eqO_run O hx n).2
  have sb : Sub X (k + 2 + n + 1) X.A := ⟨hr, rfl⟩
  have key : wpAny (model X.prog X.w) X.A (contains (.ref p) v) (fun b s' => b = r ∧ LoopO X pins σ H s') X.xe s := by
    rcases hy with hy | hy
    · have lists : ∀ s', LoopO X pins σ H s' → ∃ (its : List Value) (n : Nat), s'.heap.get? p = some { cls := .type "list", data := .seq its.toArray n } ∧ Vals us its := fun s' q => by
        obtain ⟨H1, I1, e1⟩ := q
        obtain ⟨z, its, k, r, e⟩ := I1.hok p _ (e1 _ _ hy)
        exact ⟨its, k, e, r⟩
      refine GC.within (N := l.length) (fun i s' => LoopO X pins σ H s' ∧ inO (eqO own n) a (l.drop i) = some r) (fun s' => LoopO X pins σ H s' ∧ r = true) (fun i s' q => ?_) (fun s' q => ⟨q.2.symm, q.1⟩) (fun s' q => ?_) ⟨⟨H, I, fun _ _ h => h⟩, by simpa using hin⟩
      · obtain ⟨its, m, e, rv⟩ := lists s' q.1
        exact ⟨its.toArray, m, e, by rw [List.size_toArray, ← rv.length, hl.len], fun hi => turnIn eq sb nl na hl ra rx rv i hi s' q⟩
      · have q2 := q.2
        rw [List.drop_length] at q2
        exact ⟨Option.some.inj q2, q.1⟩
    · obtain ⟨its, rv, e, _⟩ := I.tuple hy
      refine GC.withinT (fun i s' => LoopO X pins σ H s' ∧ inO (eqO own n) a (l.drop i) = some r) (fun s' => LoopO X pins σ H s' ∧ r = true) (isT e) (fun i hi s' q => turnIn eq sb nl na hl ra rx rv i hi s' q) (fun s' q => ⟨q.2.symm, q.1⟩) (fun s' q => ?_) ⟨⟨H, I, fun _ _ h => h⟩, by simpa using hin⟩
      have q2 := q.2
      rw [List.size_toArray, ← rv.length, hl.len, List.drop_length] at q2
      exact ⟨Option.some.inj q2, q.1⟩
  cases neg with
  | false =>
    show wpAny _ _ (do return Value.bool (← contains (.ref p) v)) _ _ _
    refine wpAny_bind (wpAny_mono key (fun b s' z => ?_) fun _ _ e => e)
    obtain ⟨rfl, H', I', e⟩ := z
    exact wpAny_pure ⟨.bl b, H', I', rfl, q H' e⟩
  | true =>
    show wpAny _ _ (do return Value.bool (!(← contains (.ref p) v))) _ _ _
    refine wpAny_bind (wpAny_mono key (fun b s' z => ?_) fun _ _ e => e)
    obtain ⟨rfl, H', I', e⟩ := z
    exact wpAny_pure ⟨.bl (!b), H', I', rfl, q H' e⟩
end
end Z
namespace Z
open PySem PySem.Spec PyProof.Rows L2
def rdLT (y : DV) (C : Cs) : Option (List D) := match y with | .of (.tup l) => some l | y => rdL y C
@[irreducible] def dInO (own : Own) (ks : List Str) (n : Nat) (neg : Bool) : DR2 := fun x y C Q => match rdD x C, rdLT y C with
  | some a, some l => (nvD ks a = true ∧ nvDs ks l = true) ∧ (match inO (eqO own n) a l with | some r => Q (.of (.bl (cond neg (!r) r))) C | none => False)
  | _, _ => False
section
variable {K : PySem.W.Frag} [Gd K] {W : Wd} {S : Sl} {C : Cs} {σ : L2.St} {H' : Hp}
theorem rdLT_ok {v : V} {y : DV} {l : List D} (m : Mem K W C) (r : RepV K W v y) (h : rdLT y C = some l) : ∃ p us, v = .ref p ∧ (W.H p = some (.lst us) ∨ SqT K W.H p us) ∧ Reps K W us l := by
  unfold rdLT at h
  split at h
  · cases h
    obtain ⟨a, us, rfl, h1, h2⟩ := rep_tup r
    exact ⟨a, us, rfl, .inr h1, h2⟩
  · obtain ⟨a, us, rfl, h1, h2⟩ := rdL_ok m r h
    exact ⟨a, us, rfl, .inl h1, h2⟩
theorem refR_inO {own : Own} {ks : List Str} {n : Nat} {neg : Bool} : RefR K (rInO K own ks n neg) (dInO own ks n neg) := fun W S C σ st v u x y QD Q rx ry q k => by
  unfold dInO at q
  split at q
  · rename_i a l ha hl
    obtain ⟨⟨na, nl⟩, q⟩ := q
    split at q
    · rename_i r hr
      have pe : Pers W (Wd0 W.H) := fun b o h _ => ⟨h, by simp⟩
      have p0 : ∀ {v : V} {d : D}, Rep K { W with ws := [] } v d → Rep K (Wd0 W.H) v d := fun h => Rep.mono (W := { W with ws := [] }) (W' := Wd0 W.H) (fun b o h n => ⟨h, by simp⟩) h
      obtain ⟨p, us, rfl, h1, h2⟩ := rdLT_ok st.m ry hl
      exact ⟨a, l, r, p, us, p0 (rdD_ok st.m rx ha), rfl, h1, Reps.mono pe h2, na, nl, hr, fun H' e => k _ (.of (.bl (cond neg (!r) r))) { W with H := H' } C (Ext.grow e) (st.grow e) (Rep.bl _) q⟩
    · exact q.elim
  · exact q.elim
variable {X : Cx} {CX : CXT} {k : Nat} {E : XK} {own : Own} {ks : List Str}
theorem oq_inO (n : Nat) (O : OwnQ X.prog X.w K X.mg X.base CX k own ks) {j : Nat} (hr : Room j X.A) (hj : k + 2 + n + 1 ≤ j) (hx : Passes CX X E) (hK : X.K = K) : QOp K X (compareOp .In) (rInO K own ks n false) (dInO own ks n false) := ⟨by subst hK; exact op_inO O hx n false (hr.mono hj), refR_inO⟩
theorem oq_notInO (n : Nat) (O : OwnQ X.prog X.w K X.mg X.base CX k own ks) {j : Nat} (hr : Room j X.A) (hj : k + 2 + n + 1 ≤ j) (hx : Passes CX X E) (hK : X.K = K) : QOp K X (compareOp .NotIn) (rInO K own ks n true) (dInO own ks n true) := ⟨by subst hK; exact op_inO O hx n true (hr.mono hj), refR_inO⟩
end
end Z
namespace Z
open PySem PySem.Spec PyProof.Rows L2
/-- no instances: == of data alone -/
theorem ownNil {P : Program} {w : World} {K : PySem.W.Frag} {mg : Str → Option Value} {base : Heap} {CX : CXT} : OwnQ P w K mg base CX 0 (fun _ _ _ => none) [] where
  at_ := fun _ _ _ _ h => nomatch h
  refl := fun _ _ _ h => nomatch h
  cj := fun _ h => nomatch h
end Z
namespace Z
open PySem PySem.Spec PyProof.Rows L2
theorem dInO_use {own : Own} {ks : List Str} {n : Nat} {neg : Bool} {x y : DV} {C : Cs} {Q : DV → Cs → Prop} {a : D} {l : List D} {r : Bool} (ha : rdD x C = some a) (hl : rdLT y C = some l) (na : nvD ks a = true) (nl : nvDs ks l = true) (h : inO (eqO own n) a l = some r) (q : Q (.of (.bl (cond neg (!r) r))) C) : dInO own ks n neg x y C Q := by
  unfold dInO
  rw [ha, hl]
  refine ⟨⟨na, nl⟩, ?_⟩
  rw [h]
  exact q
theorem dEqO_use {own : Own} {ks : List Str} {n : Nat} {neg : Bool} {x y : DV} {C : Cs} {Q : DV → Cs → Prop} {a b : D} {r : Bool} (ha : rdD x C = some a) (hb : rdD y C = some b) (na : nvD ks a = true) (nb : nvD ks b = true) (h : eqO own n a b = some r) (q : Q (.of (.bl (cond neg (!r) r))) C) : dEqO own ks n neg x y C Q := by
  unfold dEqO
  rw [ha, hb]
  refine ⟨⟨na, nb⟩, ?_⟩
  rw [h]
  exact q
/-- a plain thing is no piece -/
theorem eqO_plain (n : Nat) {b : D} (p : PC) (hp : plainA b = true) : eqO ownPc n b (dPc p) = some false := by
  have key : baseO ownPc b (dPc p) = some false := by
    cases b with
    | non => exact ownPc_no (p := p) (b := .non) True.intro
    | bl z => exact ownPc_no (p := p) (b := .bl z) True.intro
    | int z => exact ownPc_no (p := p) (b := .int z) True.intro
    | str z => exact ownPc_no (p := p) (b := .str z) True.intro
    | tup z => exact ownPc_no (p := p) (b := .tup z) True.intro
    | _ => cases hp
  cases n with
  | zero => exact key
  | succ n => cases b <;> first | exact key | cases hp
theorem inO_pcs (n : Nat) (x : PC) : ∀ l : List PC, inO (eqO ownPc n) (dPc x) (l.map dPc) = some (decide (x ∈ l))
  | [] => rfl
  | d :: l => by
    show (match eqO ownPc n (dPc d) (dPc x) with | some true => some true | some false => inO (eqO ownPc n) (dPc x) (l.map dPc) | none => none) = _
    rw [eqO_pc]
    by_cases e : d = x
    · rw [decide_eq_true e]
      exact congrArg some (decide_eq_true (by rw [e]; exact List.mem_cons_self)).symm
    · rw [decide_eq_false e]
      show inO (eqO ownPc n) (dPc x) (l.map dPc) = _
      rw [inO_pcs n x l]
      congr 1
      rw [decide_eq_decide, List.mem_cons]
      exact ⟨.inr, fun h => h.resolve_left fun z => e z.symm⟩
theorem inO_plain (n : Nat) (p : PC) : ∀ l : List D, (∀ b ∈ l, plainA b = true) → inO (eqO ownPc n) (dPc p) l = some false
  | [], _ => rfl
  | d :: l, h => by
    show (match eqO ownPc n d (dPc p) with | some true => some true | some false => inO (eqO ownPc n) (dPc p) l | none => none) = _
    rw [eqO_plain n p (h d List.mem_cons_self)]
    exact inO_plain n p l fun b hb => h b (List.mem_cons_of_mem _ hb)
end Z

set_option Elab.async false
set_option linter.all false
set_option maxRecDepth 100000
set_option maxHeartbeats 4000000
/-! ### comprehensions over two sources -/
namespace Z
open PySem PySem.Spec PyProof.Rows L2
/-- the list that grows is the cell at C1's end -/
def dLc2 (di : DTI) (dg : DTG) (dt : DTT) (di1 : DTI) (dg1 : DTG) (dt1 : DTT) (de : DTE) (vs vs1 : List Nat) : DTE := fun S C Q => di S C fun items ok C1 => ∃ I : Nat → Cs → Prop, I 0 (C1 ++ [.lst []]) ∧ (∀ i C2, I i C2 → ok C2) ∧
  (∀ i C2 d, items[i]? = some d → I i C2 → dg (.of d) (wipeS S vs) C2 fun S2 C3 => dt S2 C3 fun b C4 => if b = true then di1 S2 C4 fun items1 ok1 C5 => ∃ I1 : Nat → Cs → Prop, I1 0 C5 ∧ (∀ j C6, I1 j C6 → ok1 C6) ∧
      (∀ j C6 d1, items1[j]? = some d1 → I1 j C6 → dg1 (.of d1) (wipeS S2 vs1) C6 fun S3 C7 => dt1 S3 C7 fun b1 C8 => if b1 = true then de S3 C8 fun y C9 => frz y C9 fun e C10 => ∃ acc, C10[C1.length]? = some (.lst acc) ∧ acc.length < 16777216 ∧ I1 (j + 1) ((C10.set C1.length (.lst (acc ++ [e]))).take C5.length) else I1 (j + 1) (C8.take C5.length)) ∧
      ∀ C6, I1 items1.length C6 → I (i + 1) (C6.take (C1.length + 1))
    else I (i + 1) (C4.take (C1.length + 1))) ∧
  ∀ C2, I items.length C2 → Q (.cel C1.length) C2
theorem Ext.cutA {W W' : Wd} {n : Nat} (x : Ext W W') (hn : W.As.length = n) : Ext W { W' with As := W'.As.take n } :=
  ⟨x.keep, x.there, x.wsn, x.wsk, x.wrn, x.pv, [], by
    obtain ⟨more, ha⟩ := x.as
    show W'.As.take n = _
    rw [ha, ← hn, List.take_left', List.append_nil]
    rfl⟩
theorem Ext.asAt {W W' : Wd} {i : Nat} {u : Addr × List Addr} (x : Ext W W') (h : W.As[i]? = some u) : W'.As[i]? = some u := by
  obtain ⟨more, ha⟩ := x.as
  rw [ha, List.getElem?_append_left (List.getElem?_eq_some_iff.mp h).1]
  exact h
theorem refE_lc2 {K : PySem.W.Frag} [Gd K] {wi wi1 : TI} {g g1 : TG} {tt tt1 : TT} {te : TE} {di di1 : DTI} {dg dg1 : DTG} {dt dt1 : DTT} {de : DTE} {vs vs1 : List Nat} (hi : RefI K wi di) (hg : RefG K g dg) (hw : GOwn g vs) (ht : RefT K tt dt) (hi1 : RefI K wi1 di1) (hg1 : RefG K g1 dg1) (hw1 : GOwn g1 vs1) (ht1 : RefT K tt1 dt1) (he : RefE K te de) :
    RefE K (tLc2 wi g tt wi1 g1 tt1 te vs vs1) (dLc2 di dg dt di1 dg1 dt1 de vs vs1) := by
  intro W S C σ st QD Q q k
  refine hi W S C σ st _ _ q fun J W1 C1 items ok e1 s1 hwk q1 => ?_
  obtain ⟨I, h0, hok, hstep, hend⟩ := q1
  intro D0 hD
  have n1 : C1.length = W1.As.length := s1.m.len
  have exn : Ext W1 (W1.cell D0 (.lst [])) := Ext.cell hD
  have sn : Sta K (W1.cell D0 (.lst [])) S (C1 ++ [.lst []]) σ := s1.newlist hD .nil
  have nA : (W1.cell D0 (.lst [])).As.length = C1.length + 1 := by
    show (W1.As ++ [_]).length = _
    rw [List.length_append, n1]; rfl
  have aD : (W1.cell D0 (.lst [])).As[C1.length]? = some (D0, [D0]) := by
    show (W1.As ++ [_])[C1.length]? = _
    rw [n1, List.getElem?_append_right (Nat.le_refl _), Nat.sub_self]; rfl
  generalize hWn : W1.cell D0 (.lst []) = Wn at exn sn nA aD
  have hWnH : Wn.H = L2.upd W1.H D0 (.lst []) := by rw [← hWn]
  let St := fun (i : Nat) (H : Hp) => ∃ (W : Wd) (C : Cs), W.H = H ∧ Mem K W C ∧ Ext Wn W ∧ I i C
  have good : ∀ (W' : Wd) (C' : Cs) (i : Nat), Mem K W' C' → Ext Wn W' → I i (C'.take (C1.length + 1)) → St i W'.H := fun W' C' i m x hI =>
    ⟨{ W' with As := W'.As.take (C1.length + 1) }, _, rfl, m.cut, x.cutA nA, hI⟩
  refine ⟨fun i m H => m = items.length - i ∧ i ≤ items.length ∧ St i H, ⟨items.length, by simp, Nat.zero_le _, Wn, _, hWnH, sn.m, .refl, h0⟩, ?_⟩
  rintro i m H ⟨rfl, hi', W2, C2, rfl, m2, x2, hI⟩
  obtain ⟨hgo, hstop⟩ := hwk W2 C2 (exn.trans x2) m2 (hok i C2 hI)
  by_cases hlt : i < items.length
  · refine .inr ⟨(hgo i hlt).1, St (i + 1), fun H' h' => ⟨items.length - (i + 1), by omega, rfl, hlt, h'⟩, fun v H' hy => ?_⟩
    obtain ⟨W3, e3, hH3, m3, d, hd, rd⟩ := (hgo i hlt).2 v H' hy
    subst hH3
    have x3 : Ext Wn W3 := x2.trans e3
    have s3 : Sta K W3 (wipeS S vs) C2 (wipe σ vs) := ⟨m3, (sn.s.mono sn.m x3).wipe vs, Gd.ext sn.g x3⟩
    have z := hw v (wipe σ vs) W3.H (fun σ2 H2 => tt σ2 H2 fun b H3 => if b = true then wi1 σ2 H3 fun J1 H4 => ∃ W1 : Nat → Nat → Hp → Prop, (∃ m, W1 0 m H4) ∧ ∀ j k H, W1 j k H →
      (J1.stop j H ∧ St (i + 1) H) ∨ (J1.go j H ∧ ∃ Nx1 : Hp → Prop, (∀ H', Nx1 H' → ∃ k', k' < k ∧ W1 (j + 1) k' H') ∧ ∀ x H', J1.yld j H x H' → g1 x (wipe σ2 vs1) H' fun σ3 H5 => wipe σ3 vs1 = wipe σ2 vs1 ∧ tt1 σ3 H5 fun b H6 =>
        if b = true then te σ3 H6 fun y H7 => ∃ acc, H7 D0 = some (.lst acc) ∧ acc.length < sizeLine ∧ Nx1 (L2.upd H7 D0 (.lst (acc ++ [y]))) else Nx1 H6)
      else St (i + 1) H3) ?_
    · rw [wipe_idem] at z
      exact z
    refine hg W3 (wipeS S vs) C2 (wipe σ vs) s3 v (.of d) _ _ rd (hstep i C2 d hd hI) fun W4 S4 C4 σ4 x4 s4 q4 => ?_
    refine ht W4 S4 C4 σ4 s4 _ _ q4 fun b W5 C5 x5 s5 q5 => ?_
    cases b with
    | false =>
      rw [if_neg (by simp)] at q5 ⊢
      exact good W5 C5 (i + 1) s5.m ((x3.trans x4).trans x5) q5
    | true =>
      rw [if_pos rfl] at q5 ⊢
      refine hi1 W5 S4 C5 σ4 s5 _ _ q5 fun J1 W6 C6 items1 ok1 e6 s6 hwk1 q6 => ?_
      obtain ⟨I1, h10, hok1, hstep1, hend1⟩ := q6
      have x6 : Ext Wn W6 := ((x3.trans x4).trans x5).trans e6
      have n6 : W6.As.length = C6.length := s6.m.len.symm
      have aD6 := x6.asAt aD
      let St1 := fun (j : Nat) (H : Hp) => ∃ (W : Wd) (C : Cs), W.H = H ∧ Mem K W C ∧ Ext W6 W ∧ I1 j C
      have good1 : ∀ (W' : Wd) (C' : Cs) (j : Nat), Mem K W' C' → Ext W6 W' → I1 j (C'.take C6.length) → St1 j W'.H := fun W' C' j m x hI =>
        ⟨{ W' with As := W'.As.take C6.length }, _, rfl, m.cut, x.cutA n6, hI⟩
      refine ⟨fun j m H => m = items1.length - j ∧ j ≤ items1.length ∧ St1 j H, ⟨items1.length, by simp, Nat.zero_le _, W6, C6, rfl, s6.m, .refl, h10⟩, ?_⟩
      rintro j m H ⟨rfl, hj', W7, C7, rfl, m7, x7, hI1⟩
      obtain ⟨hgo1, hstop1⟩ := hwk1 W7 C7 x7 m7 (hok1 j C7 hI1)
      by_cases hlt1 : j < items1.length
      · refine .inr ⟨(hgo1 j hlt1).1, St1 (j + 1), fun H' h' => ⟨items1.length - (j + 1), by omega, rfl, hlt1, h'⟩, fun v1 H' hy1 => ?_⟩
        obtain ⟨W8, e8, hH8, m8, d1, hd1, rd1⟩ := (hgo1 j hlt1).2 v1 H' hy1
        subst hH8
        have x8 : Ext W6 W8 := x7.trans e8
        have s8 : Sta K W8 (wipeS S4 vs1) C7 (wipe σ4 vs1) := ⟨m8, (s6.s.mono s6.m x8).wipe vs1, Gd.ext s6.g x8⟩
        have z1 := hw1 v1 (wipe σ4 vs1) W8.H (fun σ3 H5 => tt1 σ3 H5 fun b H6 => if b = true then te σ3 H6 fun y H7 => ∃ acc, H7 D0 = some (.lst acc) ∧ acc.length < sizeLine ∧ St1 (j + 1) (L2.upd H7 D0 (.lst (acc ++ [y]))) else St1 (j + 1) H6) ?_
        · rw [wipe_idem] at z1
          exact z1
        refine hg1 W8 _ C7 _ s8 v1 (.of d1) _ _ rd1 (hstep1 j C7 d1 hd1 hI1) fun W9 S9 C9 σ9 x9 s9 q9 => ?_
        refine ht1 W9 S9 C9 σ9 s9 _ _ q9 fun b1 W10 C10 x10 s10 q10 => ?_
        cases b1 with
        | false =>
          rw [if_neg (by simp)] at q10 ⊢
          exact good1 W10 C10 (j + 1) s10.m ((x8.trans x9).trans x10) q10
        | true =>
          rw [if_pos rfl] at q10 ⊢
          refine he W10 S9 C10 σ9 s10 _ _ q10 fun y dv W11 C11 x11 s11 r11 q11 => ?_
          obtain ⟨e, W12, C12, x12, hH12, s12, r12, acc, hc, hz, hI2⟩ := frz_ok s11 r11 q11
          have x612 : Ext W6 W12 := (((x8.trans x9).trans x10).trans x11).trans x12
          have aD12 := x612.asAt aD6
          obtain ⟨⟨_, us, hus, rus⟩, _⟩ := s12.m.cell C1.length (.lst acc) D0 [D0] hc aD12 trivial
          obtain ⟨a, us', g1', g2', g3', g4', x13, m13⟩ := s12.m.putL hc rfl (rus.app (.one r12))
          rw [aD12] at g1'
          cases g1'
          rw [← hH12]
          refine ⟨us, hus, by rw [ss, rus.len]; exact hz, ?_⟩
          exact good1 { W12 with H := L2.upd W12.H D0 (.lst (us ++ [y])) } _ (j + 1) m13 (x612.trans x13) hI2
      · have e : j = items1.length := by omega
        subst e
        exact .inl ⟨hstop1, good W7 C7 (i + 1) m7 (x6.trans x7) (hend1 C7 hI1)⟩
  · have e : i = items.length := by omega
    subst e
    refine .inl ⟨hstop, ?_⟩
    exact k (.ref D0) (.cel C1.length) W2 C2 (e1.trans (exn.trans x2)) ⟨m2, sn.s.mono sn.m x2, Gd.ext sn.g x2⟩ ⟨D0, [D0], x2.asAt aD, rfl⟩ (hend C2 hI)
section
variable {K : PySem.W.Frag} [Gd K] {X : Cx}
theorem qe_lc2 {elt tg iter tg1 iter1 : Expr} {ifs ifs1 : List Expr} {scope : Scope} {own : List (Str × Nat)} {vs1 : List Nat} {pos : Pos} {wi wi1 : TI} {di di1 : DTI} {g g1 : TG} {dg dg1 : DTG} {tt tt1 : TT} {dt dt1 : DTT} {te : TE} {de : DTE} (hc : X.calm = true) (hN : X.N.Nodup) (hi : QI K X tg iter wi di) (ok : BlkOk X.N X.env.scope scope own) (hv : ∀ i ∈ vs1, i ∈ own.map (·.2))
    (hg : ∀ (s : Shared) (H : Hp) (C : Addr) (cl : List (Str × Addr)) (fp : List Addr), QG K (X.blk s H scope (compEnvC scope cl C X.env) fp) tg g dg) (hw : GOwn g (own.map (·.2))) (ht : ∀ (s : Shared) (H : Hp) (C : Addr) (cl : List (Str × Addr)) (fp : List Addr), QTs K (X.blk s H scope (compEnvC scope cl C X.env) fp) ifs tt dt)
    (hi1 : ∀ (s : Shared) (H : Hp) (C : Addr) (cl : List (Str × Addr)) (fp : List Addr), QI K (X.blk s H scope (compEnvC scope cl C X.env) fp) tg1 iter1 wi1 di1)
    (hg1 : ∀ (s : Shared) (H : Hp) (C : Addr) (cl : List (Str × Addr)) (fp : List Addr), QG K (X.blk s H scope (compEnvC scope cl C X.env) fp) tg1 g1 dg1) (hw1 : GOwn g1 vs1) (ht1 : ∀ (s : Shared) (H : Hp) (C : Addr) (cl : List (Str × Addr)) (fp : List Addr), QTs K (X.blk s H scope (compEnvC scope cl C X.env) fp) ifs1 tt1 dt1)
    (he : ∀ (s : Shared) (H : Hp) (C : Addr) (cl : List (Str × Addr)) (fp : List Addr), QE K (X.blk s H scope (compEnvC scope cl C X.env) fp) elt te de) (hs : ∀ x, foldedSetIterable iter X.env x = pure x := by intro _; rfl) (hs1 : ∀ env x, foldedSetIterable iter1 env x = pure x := by intro _ _; rfl) (s0 : Shared := by assumption) :
    QE K X (.ListComp elt [⟨tg, iter, ifs, 0⟩, ⟨tg1, iter1, ifs1, 0⟩] scope pos) (tLc2 wi g tt wi1 g1 tt1 te (own.map (·.2)) vs1) (dLc2 di dg dt di1 dg1 dt1 de (own.map (·.2)) vs1) :=
  ⟨pe_lc2 hc hN hi.p ok hv (fun s H C cl fp => (hg s H C cl fp).p) (fun s H C cl fp => (ht s H C cl fp).p) (fun s H C cl fp => (hi1 s H C cl fp).p) (fun s H C cl fp => (hg1 s H C cl fp).p) (fun s H C cl fp => (ht1 s H C cl fp).p) (fun s H C cl fp => (he s H C cl fp).p) hs hs1,
   refE_lc2 hi.r (hg s0 (fun _ => none) 0 [] []).r hw (ht s0 (fun _ => none) 0 [] []).r (hi1 s0 (fun _ => none) 0 [] []).r (hg1 s0 (fun _ => none) 0 [] []).r hw1 (ht1 s0 (fun _ => none) 0 [] []).r (he s0 (fun _ => none) 0 [] []).r⟩
end
end Z

set_option Elab.async false
set_option linter.all false
set_option maxRecDepth 100000
set_option maxHeartbeats 4000000
/-! ### one of two things drawn up in a list; dicts written out; keys in order; texts parted; wide powers -/
namespace GP
open PySem PySem.SeqAt
open AutoSeq1
theorem extT (l : Addr) (items : Array Value) (n : Nat) (b : Addr) (items2 : Array Value) (n2 : Nat) (dd : Option Addr) (sl : Array (Option Value)) (hs0 : ¬(!items.isEmpty && Builtin.List.listTooLong (items.size + items2.size)) = true) (hs1 : items.size ≤ sizeLine) (hs2 : items.size + items2.size ≤ sizeLine + 1) :
    Meets (Builtin.«list.extend» ⟨[.ref l, .ref b], []⟩) (fun _ R s => s.heap.get? l = some { cls := .type "list", dict := none, data := .seq items n, slots := #[] } ∧ s.heap.get? b = some { cls := .type "tuple", dict := dd, data := .seq items2 n2, slots := sl } ∧ R (.ok (.ret Value.none)) { s with heap := s.heap.update l (Obj.mapSeq fun x => x ++ items2), toks := s.toks }) :=
  .of_wp fun prog w A R s h => by
    have f1 := idx_int
    have f2 := sub_tuple_tuple
    have f3 := sub_list_list
    have f4 := sub_tuple_list
    have f5 := sub_list_tuple
    have hz' : (items ++ items2).size ≤ sizeLine + 1 := by rw [Array.size_append]; exact hs2
    obtain ⟨hp, g, d, tk, os⟩ := s
    obtain ⟨hl, hb, h⟩ := h
    wp_walk using (wpAny_updateSeq hl rfl (hz := hs1) (_hz' := hz')), wpAny_loadPart' hl, wpAny_loadPart' hb
    exact ⟨_, rfl, h⟩
end GP
namespace Z
open PySem PySem.Spec PyProof.Rows L2
/-! wide powers -/
def CPowW (i j : Int) : Prop := 0 ≤ j ∧ ∃ b : Nat, i.natAbs < 2 ^ b ∧ (b : Int) * j ≤ 134217728
section
variable {K : PySem.W.Frag} [Gd K] {X : Cx}
theorem op_powW : OpR X (binaryOp .Pow) (rI CPowW fun i j => .int (i ^ j.toNat)) := opI fun i j _ _ _ _ _ hc q => by
  obtain ⟨h0, b, hb, hz⟩ := hc
  refine pow_int h0 ?_ q
  have h1 : Builtin.Int.intBits i ≤ b := by
    unfold Builtin.Int.intBits
    split
    · omega
    · rename_i h
      have := (Nat.log2_lt (by simpa using h)).mpr hb
      omega
  have h2 : (Builtin.Int.intBits i : Int) * j ≤ (b : Int) * j := Int.mul_le_mul_of_nonneg_right (by omega) h0
  have h3 : (2 ^ 27 : Int) = 134217728 := by decide
  omega
theorem oq_powW : QOp K X (binaryOp .Pow) (rI CPowW fun i j => .int (i ^ j.toNat)) (dIC CPowW fun i j => .int (i ^ j.toNat)) := ⟨op_powW, refR_IC fun _ _ _ => .int _⟩
end
/-! [a, b][i] -/
def dPick (da db di : DTE) : DTE := fun S C Q => da S C fun x C1 => db S C1 fun y C2 => di S C2 fun k C3 => match k with | .of (.int i) => (i = 0 ∧ Q x C3) ∨ (i = 1 ∧ Q y C3) | _ => False
section
variable {K : PySem.W.Frag} [Gd K] {X : Cx} {a b i : Expr} {ta tb ti : TE} {da db di : DTE} {pos p1 : Pos}
theorem qe_pick (hK : X.K = K) (ha : QE K X a ta da) (hb : QE K X b tb db) (hi : QE K X i ti di) (hs : PlainIx i) (h1 : starEach [a, b] X.env = (false, eval a X.env) :: starEach [b] X.env := by rfl) (h2 : starEach [b] X.env = (false, eval b X.env) :: starEach [] X.env := by rfl) :
    QE K X (.Subscript (.List [a, b] p1) i pos) (tOp (rIxL K) (tLst (tCons ta (tCons tb tNil))) ti) (dPick da db di) :=
  ⟨pe_ix (ix_listG hK) (pe_lst (pa_cons ha.p (pa_cons hb.p pa_nil h2) h1)) hi.p hs, fun W S C σ st QD Q q k =>
    ha.r W S C σ st _ _ q fun v x W1 C1 e1 s1 r1 q1 => hb.r W1 S C1 σ s1 _ _ q1 fun u y W2 C2 e2 s2 r2 q2 => by
      refine ⟨by show 2 ≤ sizeLine; decide, fun p hp => ?_⟩
      have s3 : Sta K (W2.new p (.lst [v, u])) S C2 σ := s2.new hp
      have e3 : Ext W2 (W2.new p (.lst [v, u])) := Ext.new hp
      refine hi.r _ S C2 σ s3 _ _ q2 fun w z W3 C3 e4 s4 r4 q4 => ?_
      have hw : p ∉ W2.wr := (s2.m.fresh hp).2.1
      have hl : W3.H p = some (.lst [v, u]) := e4.keep p _ upd_same hw
      split at q4
      · rename_i j
        cases r4
        rcases q4 with ⟨rfl, q4⟩ | ⟨rfl, q4⟩
        · exact ⟨p, [v, u], 0, v, rfl, rfl, SqL.of hl, rfl, k v x W3 C3 (((e1.trans e2).trans e3).trans e4) s4 (((r1.mono s1.m e2).mono s2.m e3).mono s3.m e4) q4⟩
        · exact ⟨p, [v, u], 1, u, rfl, rfl, SqL.of hl, rfl, k u y W3 C3 (((e1.trans e2).trans e3).trans e4) s4 ((r2.mono s2.m e3).mono s3.m e4) q4⟩
      · exact q4.elim⟩
end
/-! sorted(d) -/
def dSortedD : DRA := fun xs C Q => match xs with
  | [x] => (match rdB x C with | some kvs => kvs.length < 64 ∧ ∀ ys : List (List Nat), ys.Perm (kvs.map (·.1)) → risen ys = true → Q (.cel C.length) (C ++ [.lst (ys.map D.str)]) | none => False)
  | _ => False
section
variable {K : PySem.W.Frag} [Gd K] {X : Cx}
theorem cq_sortedD (hc : X.calm = true) : QC K X (.builtin "sorted") 1 (fun xs H Q => ∃ (a : Addr) (kvs : List (Key × V)) (ks : List Str), xs = [.ref a] ∧ Rd H a (.dK kvs) ∧ kvs.map (·.1) = ks.map Sum.inr ∧ ks.length < 64 ∧
    ∀ ys p, ys.Perm ks → sortedS ys = true → H p = none → Q (.ref p) (upd H p (.lst (ys.map V.str)))) dSortedD := ⟨call_sortedD hc, fun W S C σ st vs xs QD Q hlen r q k => by
  unfold dSortedD at q
  split at q
  · split at q
    · rename_i kvs hk
      obtain ⟨v, rfl, r0⟩ := repVs1 r
      obtain ⟨a, us, rfl, h1, h2⟩ := rdB_ok st.m r0 hk
      obtain ⟨ks, e1, e2⟩ := h2.keys
      obtain ⟨q1, q2⟩ := q
      have hl : ks.length = kvs.length := by have := congrArg List.length e2; simpa using this
      refine ⟨a, us, ks, rfl, .inl h1, e1, by omega, fun ys p hp hs hn => ?_⟩
      refine KV.newL k .refl st (txt_reps ys) hn (q2 (ys.map cl) (by rw [← e2]; exact hp.map cl) ?_)
      unfold risen
      rw [List.map_map, show txtOf ∘ cl = id from funext txt_cl, List.map_id]
      exact hs
    · exact q.elim
  · exact q.elim⟩
end
/-! x.split(y) -/
def splT (l sep : List Nat) : List (List Nat) := (Txt.split (txtOf l) (txtOf sep)).map cl
theorem splT_pos (l sep : List Nat) : 1 ≤ (splT l sep).length := by unfold splT; rw [List.length_map]; exact split_pos _ _
theorem splT_le (l sep : List Nat) : (splT l sep).length ≤ l.length + 2 := by
  unfold splT; rw [List.length_map]
  exact split_le (txtOf l) (txtOf sep)
def dSplS : List Nat → List DV → Cs → (DV → Cs → Prop) → Prop := fun l xs C Q => match xs with | [.of (.str s)] => s ≠ [] ∧ Z16 (l.length + 2) ∧ Q (.cel C.length) (C ++ [.lst ((splT l s).map D.str)]) | _ => False
section
variable {K : PySem.W.Frag} [Gd K] {X : Cx} {o e : Expr} {es : List Expr} {to te : TE} {dO de : DTE} {t : TA} {dt : DTA} {n : Nat} {apos cpos : Pos}
theorem qe_split (hK : X.K = K) (ho : QE K X o to dO) (ha : QA K X (e :: es) n t dt)
    (hbase : attributeBase o "split" X.env (eval o X.env) = eval o X.env := by rfl)
    (hfew : ((backTo cpos (starEach (e :: es) X.env)).all (fun x => !x.1) && (backToKw cpos (keywordEach [] X.env)).all (fun x => x.1.isSome)
      && decide ((e :: es).length + ([] : List Keyword).length + (if ([] : List Keyword).isEmpty then 0 else 1) < 30)) = true := by rfl)
    (hline : (apos.endLine == cpos.line) = true := by rfl) (hs : starEach (e :: es) X.env = (false, eval e X.env) :: starEach es X.env := by rfl) (hplain : (backTo cpos (starEach es X.env)).any (·.1) = false := by rfl) :
    QE K X (.Call (.Attribute o "split" apos) (e :: es) [] cpos) (tBM K "str" (fun x xs H Q => ∃ a b, x = .str a ∧ xs = [.str b] ∧ (b.length == 0) = false ∧ a.length + 2 ≤ sizeLine ∧ rNewStrs (Txt.split a b) H Q) to t) (dBMS dO dt dSplS) :=
  ⟨by subst hK; exact pe_bm PySem.F.plainAttrs_str PySem.F.slot_str_split PySem.F.type_str_split mt_split ho.p ha.p hbase hfew hline hs hplain, fun W S C σ s QD Q q k => ho.r W S C σ s _ _ q fun v x W1 C1 e1 s1 r1 q1 => by
  split at q1
  · obtain ⟨z, rfl, rfl⟩ := rep_str r1
    refine ⟨rfl, ha.r W1 S C1 σ s1 _ _ q1 fun vs xs W2 C2 hl e2 s2 r2 q2 => ?_⟩
    unfold dSplS at q2
    split at q2
    · obtain ⟨u, rfl, r3⟩ := repVs1 r2
      obtain ⟨y, rfl, rfl⟩ := rep_str r3
      obtain ⟨hne, hz, q3⟩ := q2
      refine ⟨z, y, rfl, rfl, ?_, line_of (by rw [← cl_len]; exact hz), fun p hp => ?_⟩
      · rw [beq_eq_false_iff_ne, ← cl_len]
        exact fun e => hne (List.length_eq_zero_iff.mp e)
      · refine KV.newL k (e1.trans e2) s2 (txt_reps _) hp ?_
        have e : splT (cl z) (cl y) = (Txt.split z y).map cl := by unfold splT; rw [txt_cl, txt_cl]
        rw [e] at q3
        exact q3
    · exact q2.elim
  · exact q1.elim⟩
end
/-! l.extend(t), t a tuple -/
def rExtT (K : PySem.W.Frag) : V → List V → Hp → VK → Prop := fun x vs H Q => ∃ l b xs zs, x = .ref l ∧ vs = [.ref b] ∧ H l = some (.lst xs) ∧ SqT K H b zs ∧ xs.length + zs.length ≤ sizeLine ∧ Q .non (upd H l (.lst (xs ++ zs)))
theorem mt_extT {X : Cx} : MtR X "list.extend" (rExtT X.K) := by
  intro pins s σ H x vs v us Q I rx rv h
  obtain ⟨l, b, xs, zs, rfl, rfl, hH, hB, hz, q⟩ := h
  cases rx
  obtain ⟨u, rfl, ru⟩ := rv.one
  cases ru
  obtain ⟨z, its, n, r, hl, e⟩ := I.lstM hH
  obtain ⟨its2, r2, t2, hz2⟩ := I.tuple hB
  obtain ⟨⟨cls, dd, data, sl⟩, e2, hc, n2, hd⟩ := isT t2
  simp only at hc hd
  subst hc hd
  have g1 := r.length
  have g2 := r2.length
  have hsz : its.toArray.size + its2.toArray.size ≤ sizeLine := by rw [List.size_toArray, List.size_toArray]; omega
  have hlong : ¬ (!its.toArray.isEmpty && Builtin.List.listTooLong (its.toArray.size + its2.toArray.size)) = true := by
    rw [notLongL hsz, Bool.and_false]
    exact Bool.false_ne_true
  refine call_meets F.slot_list_extend ⟨_, e, rfl⟩ F.entry_list_extend (F.args_list_extend_2 _ _)
    (GP.extT l its.toArray n b its2.toArray n2 dd sl hlong (by rw [List.size_toArray]; omega) (by omega)) ⟨e, e2, ?_⟩
  refine ⟨.non, _, I.lset (its' := its ++ its2) hH e (by simp) (r.append r2) ?_, rfl, q⟩
  rw [List.length_append]
  omega
def dExtT : DRM := fun x xs C Q => match x, xs with | .cel i, [y] => (match rdT y with | some m => setL C i (· ++ m) fun l C2 => Z16 (l.length + m.length) ∧ Q (.of .non) C2 | none => False) | _, _ => False
section
variable {K : PySem.W.Frag} [Gd K]
theorem refM_extT : RefM K (rExtT K) dExtT := fun W S C σ s v vs x xs QD Q rx rs q k => by
  unfold dExtT at q
  split at q
  · split at q
    · rename_i m hm
      obtain ⟨u, rfl, r0⟩ := repVs1 rs
      obtain ⟨b, ws, rfl, g1, g2⟩ := rdT_ok r0 hm
      obtain ⟨a, us, l, C2, rfl, h1, h2, ⟨hz, q2⟩, h3⟩ := setL_ok s rx q
      refine ⟨a, b, us, ws, rfl, rfl, h1, g1, line_of (by rw [h2.len, g2.len]; exact hz), ?_⟩
      obtain ⟨x2, s2⟩ := h3 (us ++ ws) (h2.app g2)
      exact k.at x2 s2 .non q2
    · exact q.elim
  · exact q.elim
end
end Z
namespace Z
open PySem PySem.Spec PyProof.Rows L2
/-! {k: v, ..}, keys texts -/
def dPairs : List (DTE × DTE) → Sl → Cs → (Kvs → Cs → Prop) → Prop
  | [], _, C, Q => Q [] C
  | (dk, dv) :: r, S, C, Q => dk S C fun x C1 => match x with | .of (.str z) => dv S C1 fun y C2 => frz y C2 fun d C3 => dPairs r S C3 fun l C4 => Q ((z, d) :: l) C4 | _ => False
def mergeT (kvs more : Kvs) : Kvs := more.foldl (fun acc kv => putT acc kv.1 kv.2) kvs
def dDisp (ds : List (DTE × DTE)) : DTE := fun S C Q => dPairs ds S (C ++ [.dct []]) fun kvs C1 => kvs.length ≤ 15 ∧ C1[C.length]? = some (.dct []) ∧ Q (.cel C.length) (C1.set C.length (.dct (mergeT [] kvs)))
structure QPs (K : PySem.W.Frag) [Gd K] (X : Cx) (pos : Pos) (keys : List (Option Expr)) (values : List Expr) (trs : List (TE × TE)) (ds : List (DTE × DTE)) : Prop where
  p : PPs X pos keys values trs
  r : ∀ (W : Wd) (S : Sl) (C : Cs) (σ : L2.St), Sta K W S C σ → ∀ (QD : Kvs → Cs → Prop) (R : List (V × V) → Hp → Prop), dPairs ds S C QD →
    (∀ (kvs : Kvs) (vs : List (Key × V)) W' C', Ext W W' → Sta K W' S C' σ → RepKv K W' vs kvs → QD kvs C' → R (vs.map fun kv => (kV kv.1, kv.2)) W'.H) → tPairs trs σ W.H R
section
variable {K : PySem.W.Frag} [Gd K] {X : Cx} {pos : Pos}
theorem qps_nil : QPs K X pos [] [] [] [] := ⟨pps_nil, fun W S C σ st QD R q k => k [] [] W C .refl st .nil q⟩
theorem qps_cons {k v : Expr} {ks : List (Option Expr)} {vs : List Expr} {tk tv : TE} {dk dv : DTE} {trs : List (TE × TE)} {ds : List (DTE × DTE)} (hk : QE K X k tk dk) (hv : QE K X v tv dv) (hr : QPs K X pos ks vs trs ds) : QPs K X pos (some k :: ks) (v :: vs) ((tk, tv) :: trs) ((dk, dv) :: ds) :=
  ⟨pps_cons hk.p hv.p hr.p, fun W S C σ st QD R q kk => hk.r W S C σ st _ _ q fun v x W1 C1 e1 s1 r1 q1 => by
    split at q1
    · obtain ⟨z, rfl, rfl⟩ := rep_str r1
      refine hv.r W1 S C1 σ s1 _ _ q1 fun u y W2 C2 e2 s2 r2 q2 => ?_
      obtain ⟨d, W3, C3, e3, hH, s3, r3, q3⟩ := frz_ok s2 r2 q2
      rw [← hH]
      exact hr.r W3 S C3 σ s3 _ _ q3 fun kvs vs W4 C4 e4 s4 rk q4 => kk ((cl z, d) :: kvs) ((.inr z, u) :: vs) W4 C4 (((e1.trans e2).trans e3).trans e4) s4 (.cons ⟨⟨z, rfl, rfl⟩, Rep.mono (e4.pers s3.m.wrws) r3⟩ rk) q4
    · exact q1.elim⟩
theorem merge_rep {W : Wd} : ∀ {more : List (Key × V)} {mT : Kvs}, RepKv K W more mT → ∀ {vs : List (Key × V)} {kvs : Kvs}, RepKv K W vs kvs → RepKv K W (mergeK vs more) (mergeT kvs mT)
  | _, _, .nil, _, _, h => h
  | _, _, .cons (a := p) (b := q) h t, vs, kvs, r => by
    obtain ⟨z, e1, e2⟩ := h.1
    show RepKv K W (mergeK (putK vs p.1 p.2) _) (mergeT (putT kvs q.1 q.2) _)
    rw [e1, ← e2]
    exact merge_rep t (r.put h.2)
theorem qe_disp {keys : List (Option Expr)} {values : List Expr} {trs : List (TE × TE)} {ds : List (DTE × DTE)} (h : QPs K X pos keys values trs ds) (hall : keys.all (·.isSome) = true := by rfl) (hl : keys.length = values.length := by rfl) (h0 : keys ≠ [] := by exact List.cons_ne_nil _ _) (h15 : keys.length ≤ 15 := by decide) : QE K X (.Dict keys values pos) (tDisp trs) (dDisp ds) :=
  ⟨pe_disp h.p hall hl h0 h15, fun W S C σ st QD Q q k => fun p hp => by
    have s1 : Sta K (W.cell p (.dK [])) S (C ++ [.dct []]) σ := st.newcell hp ⟨rfl, [], upd_same, .nil⟩
    have a0 : (W.cell p (.dK [])).As[C.length]? = some (p, [p]) := by
      show (W.As ++ [(p, [p])])[C.length]? = _
      rw [st.m.len, List.getElem?_append_right (Nat.le_refl _), Nat.sub_self]; rfl
    refine h.r (W.cell p (.dK [])) S _ σ s1 _ _ q fun kvs vs W1 C1 e1 s1' rk q1 => ?_
    obtain ⟨h15, hc, q2⟩ := q1
    have aD := e1.asAt a0
    obtain ⟨⟨_, vs0, h1, h2⟩, _⟩ := s1'.m.cell C.length (.dct []) p [p] hc aD trivial
    cases h2
    refine ⟨h1, vs, rfl, by rw [rk.len]; exact h15, ?_⟩
    obtain ⟨a, C', e, q3, up⟩ := setB_ok (x := .cel C.length) (v := .ref p) (l' := mergeT [] kvs) (k := fun C' => QD (.cel C.length) C') s1' ⟨p, [p], aD, rfl⟩ (by
      show (match C1[C.length]? with | some (.dct _) => QD (.cel C.length) (C1.set C.length (.dct (mergeT [] kvs))) | _ => False)
      rw [hc]
      exact q2)
    cases e
    obtain ⟨x2, s2⟩ := up (mergeK [] vs) (merge_rep rk .nil)
    exact k (.ref p) (.cel C.length) _ _ (((Ext.cell hp).trans e1).trans x2) s2 ⟨p, [p], aD, rfl⟩ q3⟩
/-- {} -/
def dDnew : DTE := fun _ C Q => Q (.cel C.length) (C ++ [.dct []])
theorem qe_dnew : QE K X (.Dict [] [] pos) tDNewK dDnew := ⟨pe_dnewK, fun W S C σ st QD Q q k => fun p hp =>
  k (.ref p) (.cel C.length) _ _ (Ext.cell hp) (st.newcell (dc := .dct []) hp ⟨rfl, [], upd_same, .nil⟩) (RepV.newcell st.m) q⟩
end
end Z

set_option Elab.async false
set_option linter.all false
set_option maxRecDepth 100000
set_option maxHeartbeats 4000000
namespace Z
open PySem PySem.Spec PyProof.Rows L2
structure Top (w : World) (K : PySem.W.Frag) (mg : Str → Option Value) : Prop where
  ex : ∃ h : Heap, K.In h ∧ h.Ns mainGlobals mg ∧ He.SaysX fa fn [] [] exB w h K
section
variable {w : World} {K : PySem.W.Frag} {mg : Str → Option Value}
theorem Top.g__wall (T : Top w K mg) : mg "_wall" = some (.ref (He.ga K "_wall")) := by
  obtain ⟨h, X, G, c⟩ := T
  have q := c.t.d.fact 0 (f := .glo "_wall") rfl
  exact He.glo_ok X G q
theorem Top.g_Unread (T : Top w K mg) : mg "Unread" = some (.ref (He.ga K "Unread")) := by
  obtain ⟨h, X, G, c⟩ := T
  have q := c.t.d.fact 1 (f := .glo "Unread") rfl
  exact He.glo_ok X G q
theorem Top.s_LETTERS (T : Top w K mg) : ∃ t, mg "LETTERS" = some (.str "abcdefghijklmnopqrstuvwxyzABCDEFGHIJKLMNOPQRSTUVWXYZ" t) := by
  obtain ⟨h, X, G, c⟩ := T
  have q := c.t.d.fact 2 (f := .str "LETTERS" "abcdefghijklmnopqrstuvwxyzABCDEFGHIJKLMNOPQRSTUVWXYZ") rfl
  exact He.str_ok X G q
theorem Top.s_FIGURES (T : Top w K mg) : ∃ t, mg "FIGURES" = some (.str "0123456789" t) := by
  obtain ⟨h, X, G, c⟩ := T
  have q := c.t.d.fact 3 (f := .str "FIGURES" "0123456789") rfl
  exact He.str_ok X G q
theorem Top.g_PAIRS (T : Top w K mg) : mg "PAIRS" = some (.ref (He.ga K "PAIRS")) := by
  obtain ⟨h, X, G, c⟩ := T
  have q := c.t.d.fact 4 (f := .glo "PAIRS") rfl
  exact He.glo_ok X G q
theorem Top.g_Piece (T : Top w K mg) : mg "Piece" = some (.ref (He.ga K "Piece")) := by
  obtain ⟨h, X, G, c⟩ := T
  have q := c.t.d.fact 5 (f := .glo "Piece") rfl
  exact He.glo_ok X G q
theorem Top.cl_Piece (T : Top w K mg) : Cls K (He.ga K "Piece") := by
  obtain ⟨h, X, G, c⟩ := T
  have q := c.t.d.fact 6 (f := .cls "Piece") rfl
  exact He.cls_ok q
theorem Top.mk_Piece (T : Top w K mg) : Mk K (He.ga K "Piece") (He.ma K (He.ga K "Piece") "__init__") := by
  obtain ⟨h, X, G, c⟩ := T
  have q := c.t.d.fact 7 (f := .mkr "Piece") rfl
  exact He.mkr_ok q
theorem Top.m_Piece___init__ (T : Top w K mg) : Meth K (He.ga K "Piece") "__init__" (He.ma K (He.ga K "Piece") "__init__") := by
  obtain ⟨h, X, G, c⟩ := T
  have q := c.t.d.fact 8 (f := .meth "Piece" "__init__") rfl
  exact He.meth_ok q
theorem Top.m_Piece___eq__ (T : Top w K mg) : Meth K (He.ga K "Piece") "__eq__" (He.ma K (He.ga K "Piece") "__eq__") := by
  obtain ⟨h, X, G, c⟩ := T
  have q := c.t.d.fact 9 (f := .meth "Piece" "__eq__") rfl
  exact He.meth_ok q
theorem Top.m_Piece___len__ (T : Top w K mg) : Meth K (He.ga K "Piece") "__len__" (He.ma K (He.ga K "Piece") "__len__") := by
  obtain ⟨h, X, G, c⟩ := T
  have q := c.t.d.fact 10 (f := .meth "Piece" "__len__") rfl
  exact He.meth_ok q
theorem Top.m_Piece___str__ (T : Top w K mg) : Meth K (He.ga K "Piece") "__str__" (He.ma K (He.ga K "Piece") "__str__") := by
  obtain ⟨h, X, G, c⟩ := T
  have q := c.t.d.fact 11 (f := .meth "Piece" "__str__") rfl
  exact He.meth_ok q
theorem Top.m_Piece___repr__ (T : Top w K mg) : Meth K (He.ga K "Piece") "__repr__" (He.ma K (He.ga K "Piece") "__repr__") := by
  obtain ⟨h, X, G, c⟩ := T
  have q := c.t.d.fact 12 (f := .meth "Piece" "__repr__") rfl
  exact He.meth_ok q
theorem Top.m_Piece_stands (T : Top w K mg) : Meth K (He.ga K "Piece") "stands" (He.ma K (He.ga K "Piece") "stands") := by
  obtain ⟨h, X, G, c⟩ := T
  have q := c.t.d.fact 13 (f := .meth "Piece" "stands") rfl
  exact He.meth_ok q
theorem Top.na_Piece_text (T : Top w K mg) : NoAttr K (He.ga K "Piece") "text" := by
  obtain ⟨h, X, G, c⟩ := T
  have q := c.t.d.fact 14 (f := .noat "Piece" "text") rfl
  exact He.noat_ok q
theorem Top.na_Piece_signs (T : Top w K mg) : NoAttr K (He.ga K "Piece") "signs" := by
  obtain ⟨h, X, G, c⟩ := T
  have q := c.t.d.fact 15 (f := .noat "Piece" "signs") rfl
  exact He.noat_ok q
theorem Top.na_Piece_paint (T : Top w K mg) : NoAttr K (He.ga K "Piece") "paint" := by
  obtain ⟨h, X, G, c⟩ := T
  have q := c.t.d.fact 16 (f := .noat "Piece" "paint") rfl
  exact He.noat_ok q
theorem Top.g_word_end (T : Top w K mg) : mg "word_end" = some (.ref (He.ga K "word_end")) := by
  obtain ⟨h, X, G, c⟩ := T
  have q := c.t.d.fact 17 (f := .glo "word_end") rfl
  exact He.glo_ok X G q
theorem Top.g_token_end (T : Top w K mg) : mg "token_end" = some (.ref (He.ga K "token_end")) := by
  obtain ⟨h, X, G, c⟩ := T
  have q := c.t.d.fact 18 (f := .glo "token_end") rfl
  exact He.glo_ok X G q
theorem Top.g_pieces_of (T : Top w K mg) : mg "pieces_of" = some (.ref (He.ga K "pieces_of")) := by
  obtain ⟨h, X, G, c⟩ := T
  have q := c.t.d.fact 19 (f := .glo "pieces_of") rfl
  exact He.glo_ok X G q
theorem Top.g_signs_from (T : Top w K mg) : mg "signs_from" = some (.ref (He.ga K "signs_from")) := by
  obtain ⟨h, X, G, c⟩ := T
  have q := c.t.d.fact 20 (f := .glo "signs_from") rfl
  exact He.glo_ok X G q
theorem Top.g__law_purse (T : Top w K mg) : mg "_law_purse" = some (.ref (He.ga K "_law_purse")) := by
  obtain ⟨h, X, G, c⟩ := T
  have q := c.t.d.fact 21 (f := .glo "_law_purse") rfl
  exact He.glo_ok X G q
theorem Top.g__law_take (T : Top w K mg) : mg "_law_take" = some (.ref (He.ga K "_law_take")) := by
  obtain ⟨h, X, G, c⟩ := T
  have q := c.t.d.fact 22 (f := .glo "_law_take") rfl
  exact He.glo_ok X G q
theorem Top.g__law_whole (T : Top w K mg) : mg "_law_whole" = some (.ref (He.ga K "_law_whole")) := by
  obtain ⟨h, X, G, c⟩ := T
  have q := c.t.d.fact 23 (f := .glo "_law_whole") rfl
  exact He.glo_ok X G q
theorem Top.g__law_names (T : Top w K mg) : mg "_law_names" = some (.ref (He.ga K "_law_names")) := by
  obtain ⟨h, X, G, c⟩ := T
  have q := c.t.d.fact 24 (f := .glo "_law_names") rfl
  exact He.glo_ok X G q
theorem Top.g__law_way (T : Top w K mg) : mg "_law_way" = some (.ref (He.ga K "_law_way")) := by
  obtain ⟨h, X, G, c⟩ := T
  have q := c.t.d.fact 25 (f := .glo "_law_way") rfl
  exact He.glo_ok X G q
theorem Top.g__law_led (T : Top w K mg) : mg "_law_led" = some (.ref (He.ga K "_law_led")) := by
  obtain ⟨h, X, G, c⟩ := T
  have q := c.t.d.fact 26 (f := .glo "_law_led") rfl
  exact He.glo_ok X G q
theorem Top.g__law_own_piece (T : Top w K mg) : mg "_law_own_piece" = some (.ref (He.ga K "_law_own_piece")) := by
  obtain ⟨h, X, G, c⟩ := T
  have q := c.t.d.fact 27 (f := .glo "_law_own_piece") rfl
  exact He.glo_ok X G q
theorem Top.g__law_page (T : Top w K mg) : mg "_law_page" = some (.ref (He.ga K "_law_page")) := by
  obtain ⟨h, X, G, c⟩ := T
  have q := c.t.d.fact 28 (f := .glo "_law_page") rfl
  exact He.glo_ok X G q
theorem Top.g__law_asked (T : Top w K mg) : mg "_law_asked" = some (.ref (He.ga K "_law_asked")) := by
  obtain ⟨h, X, G, c⟩ := T
  have q := c.t.d.fact 29 (f := .glo "_law_asked") rfl
  exact He.glo_ok X G q
theorem Top.g__law_due (T : Top w K mg) : mg "_law_due" = some (.ref (He.ga K "_law_due")) := by
  obtain ⟨h, X, G, c⟩ := T
  have q := c.t.d.fact 30 (f := .glo "_law_due") rfl
  exact He.glo_ok X G q
theorem Top.g_law (T : Top w K mg) : mg "law" = some (.ref (He.ga K "law")) := by
  obtain ⟨h, X, G, c⟩ := T
  have q := c.t.d.fact 31 (f := .glo "law") rfl
  exact He.glo_ok X G q
theorem Top.n_isinstance (T : Top w K mg) : mg "isinstance" = none := by
  obtain ⟨h, X, G, c⟩ := T
  have q := c.t.d.fact 32 (f := .free "isinstance") rfl
  exact He.free_ok X G q
theorem Top.n_len (T : Top w K mg) : mg "len" = none := by
  obtain ⟨h, X, G, c⟩ := T
  have q := c.t.d.fact 33 (f := .free "len") rfl
  exact He.free_ok X G q
theorem Top.n_str (T : Top w K mg) : mg "str" = none := by
  obtain ⟨h, X, G, c⟩ := T
  have q := c.t.d.fact 34 (f := .free "str") rfl
  exact He.free_ok X G q
theorem Top.n_tuple (T : Top w K mg) : mg "tuple" = none := by
  obtain ⟨h, X, G, c⟩ := T
  have q := c.t.d.fact 35 (f := .free "tuple") rfl
  exact He.free_ok X G q
theorem Top.n_range (T : Top w K mg) : mg "range" = none := by
  obtain ⟨h, X, G, c⟩ := T
  have q := c.t.d.fact 36 (f := .free "range") rfl
  exact He.free_ok X G q
theorem Top.n_enumerate (T : Top w K mg) : mg "enumerate" = none := by
  obtain ⟨h, X, G, c⟩ := T
  have q := c.t.d.fact 37 (f := .free "enumerate") rfl
  exact He.free_ok X G q
theorem Top.n_abs (T : Top w K mg) : mg "abs" = none := by
  obtain ⟨h, X, G, c⟩ := T
  have q := c.t.d.fact 38 (f := .free "abs") rfl
  exact He.free_ok X G q
theorem Top.n_int (T : Top w K mg) : mg "int" = none := by
  obtain ⟨h, X, G, c⟩ := T
  have q := c.t.d.fact 39 (f := .free "int") rfl
  exact He.free_ok X G q
theorem Top.n_bool (T : Top w K mg) : mg "bool" = none := by
  obtain ⟨h, X, G, c⟩ := T
  have q := c.t.d.fact 40 (f := .free "bool") rfl
  exact He.free_ok X G q
theorem Top.n_sorted (T : Top w K mg) : mg "sorted" = none := by
  obtain ⟨h, X, G, c⟩ := T
  have q := c.t.d.fact 41 (f := .free "sorted") rfl
  exact He.free_ok X G q
theorem Top.n_set (T : Top w K mg) : mg "set" = none := by
  obtain ⟨h, X, G, c⟩ := T
  have q := c.t.d.fact 42 (f := .free "set") rfl
  exact He.free_ok X G q
theorem Top.n_max (T : Top w K mg) : mg "max" = none := by
  obtain ⟨h, X, G, c⟩ := T
  have q := c.t.d.fact 43 (f := .free "max") rfl
  exact He.free_ok X G q
theorem Top.n_min (T : Top w K mg) : mg "min" = none := by
  obtain ⟨h, X, G, c⟩ := T
  have q := c.t.d.fact 44 (f := .free "min") rfl
  exact He.free_ok X G q
theorem Top.n_list (T : Top w K mg) : mg "list" = none := by
  obtain ⟨h, X, G, c⟩ := T
  have q := c.t.d.fact 45 (f := .free "list") rfl
  exact He.free_ok X G q
theorem Top.n_all (T : Top w K mg) : mg "all" = none := by
  obtain ⟨h, X, G, c⟩ := T
  have q := c.t.d.fact 46 (f := .free "all") rfl
  exact He.free_ok X G q
theorem Top.n_ValueError (T : Top w K mg) : mg "ValueError" = none := by
  obtain ⟨h, X, G, c⟩ := T
  have q := c.t.d.fact 47 (f := .free "ValueError") rfl
  exact He.free_ok X G q
theorem Top.ci_Piece (T : Top w K mg) : ClsI K (He.ga K "Piece") := by
  obtain ⟨h, X, G, c⟩ := T
  have q := c.more
  unfold exB at q
  replace q := (He.ba q).1
  exact clsIB_ok q
theorem Top.ow_Piece (T : Top w K mg) : OwnE K (He.ga K "Piece") (He.ma K (He.ga K "Piece") "__eq__") := by
  obtain ⟨h, X, G, c⟩ := T
  have q := c.more
  unfold exB at q
  replace q := (He.ba q).2
  replace q := (He.ba q).1
  exact ownEB_ok q
theorem Top.kc_Piece_Piece (T : Top w K mg) : PySem.W.kitOne K (.ref (He.ga K "Piece")) (.ref (He.ga K "Piece")) = some true := by
  obtain ⟨h, X, G, c⟩ := T
  have q := c.more
  unfold exB at q
  replace q := (He.ba q).2
  replace q := (He.ba q).2
  replace q := (He.ba q).1
  exact of_decide_eq_true q
theorem Top.dfl_Piece_init_0 (T : Top w K mg) : ∀ H : Hp, SqT K H (He.dflAt ("Piece", some "__init__") 0 K) [] := by
  obtain ⟨h, X, G, c⟩ := T
  have q := c.more
  unfold exB at q
  replace q := (He.ba q).2
  replace q := (He.ba q).2
  replace q := (He.ba q).2
  replace q := (He.ba q).1
  exact fun H => tupA_ok q H
theorem Top.tup_PAIRS (T : Top w K mg) : ∀ H : Hp, SqT K H (He.ga K "PAIRS") [V.str "==", V.str "!=", V.str "<=", V.str ">=", V.str "&&", V.str "||", V.str "->"] := by
  obtain ⟨h, X, G, c⟩ := T
  have q := c.more
  unfold exB at q
  replace q := (He.ba q).2
  replace q := (He.ba q).2
  replace q := (He.ba q).2
  replace q := (He.ba q).2
  replace q := (He.ba q).1
  exact fun H => He.tupB_ok q H
theorem Top.f__wall (T : Top w K mg) : ∃ fd : FuncData, FunD K "_wall" "_wall" (defArgs st__wall) (defBody st__wall) (defScope st__wall) (dd__wall.dvs K) (dd__wall.kws K) (He.ga K "_wall") fd := by
  obtain ⟨h, X, G, c⟩ := T
  exact c.t.d.def_ 0 (d := dd__wall) rfl
theorem Top.f_Unread_init (T : Top w K mg) : ∃ fd : FuncData, FunD K "__init__" "Unread.__init__" (defArgs st_Unread_init) (defBody st_Unread_init) (defScope st_Unread_init) (dd_Unread_init.dvs K) (dd_Unread_init.kws K) (He.ma K (He.ga K "Unread") "__init__") fd := by
  obtain ⟨h, X, G, c⟩ := T
  exact c.t.d.def_ 1 (d := dd_Unread_init) rfl
theorem Top.f_Piece_init (T : Top w K mg) : ∃ fd : FuncData, FunD K "__init__" "Piece.__init__" (defArgs st_Piece_init) (defBody st_Piece_init) (defScope st_Piece_init) (dd_Piece_init.dvs K) (dd_Piece_init.kws K) (He.ma K (He.ga K "Piece") "__init__") fd := by
  obtain ⟨h, X, G, c⟩ := T
  exact c.t.d.def_ 2 (d := dd_Piece_init) rfl
theorem Top.f_Piece_eq (T : Top w K mg) : ∃ fd : FuncData, FunD K "__eq__" "Piece.__eq__" (defArgs st_Piece_eq) (defBody st_Piece_eq) (defScope st_Piece_eq) (dd_Piece_eq.dvs K) (dd_Piece_eq.kws K) (He.ma K (He.ga K "Piece") "__eq__") fd := by
  obtain ⟨h, X, G, c⟩ := T
  exact c.t.d.def_ 3 (d := dd_Piece_eq) rfl
theorem Top.f_Piece_len (T : Top w K mg) : ∃ fd : FuncData, FunD K "__len__" "Piece.__len__" (defArgs st_Piece_len) (defBody st_Piece_len) (defScope st_Piece_len) (dd_Piece_len.dvs K) (dd_Piece_len.kws K) (He.ma K (He.ga K "Piece") "__len__") fd := by
  obtain ⟨h, X, G, c⟩ := T
  exact c.t.d.def_ 4 (d := dd_Piece_len) rfl
theorem Top.f_Piece_str (T : Top w K mg) : ∃ fd : FuncData, FunD K "__str__" "Piece.__str__" (defArgs st_Piece_str) (defBody st_Piece_str) (defScope st_Piece_str) (dd_Piece_str.dvs K) (dd_Piece_str.kws K) (He.ma K (He.ga K "Piece") "__str__") fd := by
  obtain ⟨h, X, G, c⟩ := T
  exact c.t.d.def_ 5 (d := dd_Piece_str) rfl
theorem Top.f_Piece_repr (T : Top w K mg) : ∃ fd : FuncData, FunD K "__repr__" "Piece.__repr__" (defArgs st_Piece_repr) (defBody st_Piece_repr) (defScope st_Piece_repr) (dd_Piece_repr.dvs K) (dd_Piece_repr.kws K) (He.ma K (He.ga K "Piece") "__repr__") fd := by
  obtain ⟨h, X, G, c⟩ := T
  exact c.t.d.def_ 6 (d := dd_Piece_repr) rfl
theorem Top.f_Piece_stands (T : Top w K mg) : ∃ fd : FuncData, FunD K "stands" "Piece.stands" (defArgs st_Piece_stands) (defBody st_Piece_stands) (defScope st_Piece_stands) (dd_Piece_stands.dvs K) (dd_Piece_stands.kws K) (He.ma K (He.ga K "Piece") "stands") fd := by
  obtain ⟨h, X, G, c⟩ := T
  exact c.t.d.def_ 7 (d := dd_Piece_stands) rfl
theorem Top.f_word_end (T : Top w K mg) : ∃ fd : FuncData, FunD K "word_end" "word_end" (defArgs st_word_end) (defBody st_word_end) (defScope st_word_end) (dd_word_end.dvs K) (dd_word_end.kws K) (He.ga K "word_end") fd := by
  obtain ⟨h, X, G, c⟩ := T
  exact c.t.d.def_ 8 (d := dd_word_end) rfl
theorem Top.f_token_end (T : Top w K mg) : ∃ fd : FuncData, FunD K "token_end" "token_end" (defArgs st_token_end) (defBody st_token_end) (defScope st_token_end) (dd_token_end.dvs K) (dd_token_end.kws K) (He.ga K "token_end") fd := by
  obtain ⟨h, X, G, c⟩ := T
  exact c.t.d.def_ 9 (d := dd_token_end) rfl
theorem Top.f_pieces_of (T : Top w K mg) : ∃ fd : FuncData, FunD K "pieces_of" "pieces_of" (defArgs st_pieces_of) (defBody st_pieces_of) (defScope st_pieces_of) (dd_pieces_of.dvs K) (dd_pieces_of.kws K) (He.ga K "pieces_of") fd := by
  obtain ⟨h, X, G, c⟩ := T
  exact c.t.d.def_ 10 (d := dd_pieces_of) rfl
theorem Top.f_signs_from (T : Top w K mg) : ∃ fd : FuncData, FunD K "signs_from" "signs_from" (defArgs st_signs_from) (defBody st_signs_from) (defScope st_signs_from) (dd_signs_from.dvs K) (dd_signs_from.kws K) (He.ga K "signs_from") fd := by
  obtain ⟨h, X, G, c⟩ := T
  exact c.t.d.def_ 11 (d := dd_signs_from) rfl
theorem Top.f__law_purse (T : Top w K mg) : ∃ fd : FuncData, FunD K "_law_purse" "_law_purse" (defArgs st__law_purse) (defBody st__law_purse) (defScope st__law_purse) (dd__law_purse.dvs K) (dd__law_purse.kws K) (He.ga K "_law_purse") fd := by
  obtain ⟨h, X, G, c⟩ := T
  exact c.t.d.def_ 12 (d := dd__law_purse) rfl
theorem Top.f__law_take (T : Top w K mg) : ∃ fd : FuncData, FunD K "_law_take" "_law_take" (defArgs st__law_take) (defBody st__law_take) (defScope st__law_take) (dd__law_take.dvs K) (dd__law_take.kws K) (He.ga K "_law_take") fd := by
  obtain ⟨h, X, G, c⟩ := T
  exact c.t.d.def_ 13 (d := dd__law_take) rfl
theorem Top.f__law_whole (T : Top w K mg) : ∃ fd : FuncData, FunD K "_law_whole" "_law_whole" (defArgs st__law_whole) (defBody st__law_whole) (defScope st__law_whole) (dd__law_whole.dvs K) (dd__law_whole.kws K) (He.ga K "_law_whole") fd := by
  obtain ⟨h, X, G, c⟩ := T
  exact c.t.d.def_ 14 (d := dd__law_whole) rfl
theorem Top.f__law_names (T : Top w K mg) : ∃ fd : FuncData, FunD K "_law_names" "_law_names" (defArgs st__law_names) (defBody st__law_names) (defScope st__law_names) (dd__law_names.dvs K) (dd__law_names.kws K) (He.ga K "_law_names") fd := by
  obtain ⟨h, X, G, c⟩ := T
  exact c.t.d.def_ 15 (d := dd__law_names) rfl
theorem Top.f__law_way (T : Top w K mg) : ∃ fd : FuncData, FunD K "_law_way" "_law_way" (defArgs st__law_way) (defBody st__law_way) (defScope st__law_way) (dd__law_way.dvs K) (dd__law_way.kws K) (He.ga K "_law_way") fd := by
  obtain ⟨h, X, G, c⟩ := T
  exact c.t.d.def_ 16 (d := dd__law_way) rfl
theorem Top.f__law_led (T : Top w K mg) : ∃ fd : FuncData, FunD K "_law_led" "_law_led" (defArgs st__law_led) (defBody st__law_led) (defScope st__law_led) (dd__law_led.dvs K) (dd__law_led.kws K) (He.ga K "_law_led") fd := by
  obtain ⟨h, X, G, c⟩ := T
  exact c.t.d.def_ 17 (d := dd__law_led) rfl
theorem Top.f__law_own_piece (T : Top w K mg) : ∃ fd : FuncData, FunD K "_law_own_piece" "_law_own_piece" (defArgs st__law_own_piece) (defBody st__law_own_piece) (defScope st__law_own_piece) (dd__law_own_piece.dvs K) (dd__law_own_piece.kws K) (He.ga K "_law_own_piece") fd := by
  obtain ⟨h, X, G, c⟩ := T
  exact c.t.d.def_ 18 (d := dd__law_own_piece) rfl
theorem Top.f__law_page (T : Top w K mg) : ∃ fd : FuncData, FunD K "_law_page" "_law_page" (defArgs st__law_page) (defBody st__law_page) (defScope st__law_page) (dd__law_page.dvs K) (dd__law_page.kws K) (He.ga K "_law_page") fd := by
  obtain ⟨h, X, G, c⟩ := T
  exact c.t.d.def_ 19 (d := dd__law_page) rfl
theorem Top.f__law_asked (T : Top w K mg) : ∃ fd : FuncData, FunD K "_law_asked" "_law_asked" (defArgs st__law_asked) (defBody st__law_asked) (defScope st__law_asked) (dd__law_asked.dvs K) (dd__law_asked.kws K) (He.ga K "_law_asked") fd := by
  obtain ⟨h, X, G, c⟩ := T
  exact c.t.d.def_ 20 (d := dd__law_asked) rfl
theorem Top.f__law_due (T : Top w K mg) : ∃ fd : FuncData, FunD K "_law_due" "_law_due" (defArgs st__law_due) (defBody st__law_due) (defScope st__law_due) (dd__law_due.dvs K) (dd__law_due.kws K) (He.ga K "_law_due") fd := by
  obtain ⟨h, X, G, c⟩ := T
  exact c.t.d.def_ 21 (d := dd__law_due) rfl
theorem Top.f_law (T : Top w K mg) : ∃ fd : FuncData, FunD K "law" "law" (defArgs st_law) (defBody st_law) (defScope st_law) (dd_law.dvs K) (dd_law.kws K) (He.ga K "law") fd := by
  obtain ⟨h, X, G, c⟩ := T
  exact c.t.d.def_ 22 (d := dd_law) rfl
end
/-! ### names by slots -/
theorem sc__wall : FnScope ["k"] ["k"] (defScope st__wall) := ⟨rfl, rfl, rfl, by decide +kernel, rfl, by decide +kernel, by decide +kernel⟩
theorem sc_Unread_init : FnScope ["self", "place"] ["self", "place"] (defScope st_Unread_init) := ⟨rfl, rfl, rfl, by decide +kernel, rfl, by decide +kernel, by decide +kernel⟩
theorem sc_Piece_init : FnScope ["self", "text", "signs", "paint"] ["self", "text", "signs", "paint"] (defScope st_Piece_init) := ⟨rfl, rfl, rfl, by decide +kernel, rfl, by decide +kernel, by decide +kernel⟩
theorem sc_Piece_eq : FnScope ["self", "other"] ["self", "other"] (defScope st_Piece_eq) := ⟨rfl, rfl, rfl, by decide +kernel, rfl, by decide +kernel, by decide +kernel⟩
theorem sc_Piece_len : FnScope ["self"] ["self"] (defScope st_Piece_len) := ⟨rfl, rfl, rfl, by decide +kernel, rfl, by decide +kernel, by decide +kernel⟩
theorem sc_Piece_str : FnScope ["self"] ["self"] (defScope st_Piece_str) := ⟨rfl, rfl, rfl, by decide +kernel, rfl, by decide +kernel, by decide +kernel⟩
theorem sc_Piece_repr : FnScope ["self"] ["self"] (defScope st_Piece_repr) := ⟨rfl, rfl, rfl, by decide +kernel, rfl, by decide +kernel, by decide +kernel⟩
theorem sc_Piece_stands : FnScope ["self"] ["self"] (defScope st_Piece_stands) := ⟨rfl, rfl, rfl, by decide +kernel, rfl, by decide +kernel, by decide +kernel⟩
theorem sc_word_end : FnScope ["row", "at", "end"] ["row", "at"] (defScope st_word_end) := ⟨rfl, rfl, rfl, by decide +kernel, rfl, by decide +kernel, by decide +kernel⟩
theorem sc_token_end : FnScope ["row", "at", "sign", "closing"] ["row", "at"] (defScope st_token_end) := ⟨rfl, rfl, rfl, by decide +kernel, rfl, by decide +kernel, by decide +kernel⟩
theorem sc_pieces_of : FnScope ["row", "page", "number", "found", "at", "end", "column"] ["row", "page", "number"] (defScope st_pieces_of) := ⟨rfl, rfl, rfl, by decide +kernel, rfl, by decide +kernel, by decide +kernel⟩
theorem sc_signs_from : FnScope ["pieces", "place", "at", "piece", "spot", "sign"] ["pieces", "place"] (defScope st_signs_from) := ⟨rfl, rfl, rfl, by decide +kernel, rfl, by decide +kernel, by decide +kernel⟩
theorem sc__law_purse : FnScope ["_law_script", "_law_at", "_law_cell", "_law_far"] ["_law_script", "_law_at"] (defScope st__law_purse) := ⟨rfl, rfl, rfl, by decide +kernel, rfl, by decide +kernel, by decide +kernel⟩
theorem sc__law_take : FnScope ["_law_purse_here", "_law_many", "_law_digit", "_law_primes", "_law_step", "_law_base", "_law_mixed"] ["_law_purse_here", "_law_many"] (defScope st__law_take) := ⟨rfl, rfl, rfl, by decide +kernel, rfl, by decide +kernel, by decide +kernel⟩
theorem sc__law_whole : FnScope ["_law_thing"] ["_law_thing"] (defScope st__law_whole) := ⟨rfl, rfl, rfl, by decide +kernel, rfl, by decide +kernel, by decide +kernel⟩
theorem sc__law_names : FnScope ["_law_purse_here", "_law_many", "_law_letters", "_law_base", "_law_at", "_law_first", "_law_found", "_law_k", "_law_name"] ["_law_purse_here", "_law_many"] (defScope st__law_names) := ⟨rfl, rfl, rfl, by decide +kernel, rfl, by decide +kernel, by decide +kernel⟩
theorem sc__law_way : FnScope ["_law_purse_here", "_law_names_here", "_law_k"] ["_law_purse_here", "_law_names_here"] (defScope st__law_way) := ⟨rfl, rfl, rfl, by decide +kernel, rfl, by decide +kernel, by decide +kernel⟩
theorem sc__law_led : FnScope ["_law_piece", "_law_way_here", "_law_signs", "_law_sign"] ["_law_piece", "_law_way_here"] (defScope st__law_led) := ⟨rfl, rfl, rfl, by decide +kernel, rfl, by decide +kernel, by decide +kernel⟩
theorem sc__law_own_piece : FnScope ["_law_purse_here", "_law_leaves", "_law_names_here", "_law_leaf", "_law_rows", "_law_line", "_law_found", "_law_at", "_law_piece", "_law_marks", "_law_own", "_law_text", "_law_signs"] ["_law_purse_here", "_law_leaves", "_law_names_here"] (defScope st__law_own_piece) := ⟨rfl, rfl, rfl, by decide +kernel, rfl, by decide +kernel, by decide +kernel⟩
theorem sc__law_page : FnScope ["_law_purse_here", "_law_signs", "_law_rows", "_law_k", "_law_at"] ["_law_purse_here"] (defScope st__law_page) := ⟨rfl, rfl, rfl, by decide +kernel, rfl, by decide +kernel, by decide +kernel⟩
theorem sc__law_asked : FnScope ["_law_purse_here", "_law_handed", "_law_signs", "_law_piece", "_law_leaf", "_law_row", "_law_column", "_law_way_here", "_law_sign"] ["_law_purse_here", "_law_handed"] (defScope st__law_asked) := ⟨rfl, rfl, rfl, by decide +kernel, rfl, by decide +kernel, by decide +kernel⟩
theorem sc__law_due : FnScope ["_law_handed", "_law_there_at", "_law_found", "_law_at", "_law_piece", "_law_spot", "_law_sign"] ["_law_handed", "_law_there_at"] (defScope st__law_due) := ⟨rfl, rfl, rfl, by decide +kernel, rfl, by decide +kernel, by decide +kernel⟩
theorem sc_law : FnScope ["_law_script", "_law_k", "_law_purse_here", "_law_names_here", "_law_leaves", "_law_turn", "_law_handed", "_law_kept", "_law_where", "_law_found", "_law_one", "_law_other"] ["_law_script"] (defScope st_law) := ⟨rfl, rfl, rfl, by decide +kernel, rfl, by decide +kernel, by decide +kernel⟩
end Z

namespace Z
open PySem PySem.Spec PyProof.Rows L2
/-! ### tokens -/
theorem wE_drop {l : List Nat} {e : Nat} {c : Nat} (h : l[e]? = some c) : wE (l.drop e) = if isLF c = true then wE (l.drop (e + 1)) + 1 else 0 := by
  obtain ⟨h1, h2⟩ := List.getElem?_eq_some_iff.mp h
  rw [List.drop_eq_getElem_cons h1, h2]
  by_cases q : isLF c = true
  · rw [if_pos q, wE_pos q]
  · rw [if_neg q, wE_neg q]
theorem wE_end {l : List Nat} {e : Nat} (h : l.length ≤ e) : wE (l.drop e) = 0 := by
  rw [List.drop_eq_nil_of_le h]; rfl
def sp_word_end : DSp := fun xs C Q => ∃ (l : List Nat) (i : Nat), xs = [.of (.str l), .of (.int i)] ∧ C = [] ∧ Z16 l.length ∧ i ≤ l.length ∧ Q (.of (.int (i + wE (l.drop i) : Nat))) []
theorem ok_word_end {P : Program} {w : World} {K : PySem.W.Frag} {mg : Str → Option Value} (T : Top w K mg) : ∃ fd : FuncData, FunD K "word_end" "word_end" (defArgs st_word_end) (defBody st_word_end) (defScope st_word_end) (dd_word_end.dvs K) (dd_word_end.kws K) (He.ga K "word_end") fd ∧ ∀ base : Heap, FnOk P w K mg base CX0 1 (He.ga K "word_end") fd ["row", "at"] (rawSp K 2 sp_word_end) := by
  obtain ⟨fd, F⟩ := T.f_word_end
  refine ⟨fd, F, fun base => fn_d F sc_word_end (fun cdv A outer s H E hr => ⟨_, _, QSs.nox
 ((qss_cons (qs_set (i := 2) sc_word_end.nd rfl (Or.inl rfl) (qv 1))
 (qss_cons (qs_while PassesOwn.never (QW.qt (qw_and (qt_cmpR oq_lt (qv 2) (qe_callB cq_len_str (by rfl) T.n_len (by decide +kernel) (qa_cons (qv 0) qa_nil)) (nomark _)) (qw_and1 (QW.qt (qw_or (qt_cmpR oq_in_sign (qe_ix xq_str (qv 0) (qv 2) (fun _ _ => rfl)) (qe_gs T.s_LETTERS) (by rfl)) (qw_or1 (qt_cmpR oq_in_sign (qe_ix xq_str (qv 0) (qv 2) (fun _ _ => rfl)) (qe_gs T.s_FIGURES) (by rfl))))))))
 (qss_one (qs_aug (i := 2) sc_word_end.nd rfl (Or.inl rfl) qe_int ioq_add)))
 (qss_one (qs_ret (qv 2)))))), fun xs C Q hlen h => ?_⟩)⟩
  obtain ⟨l, i, rfl, rfl, hz, hi, hq⟩ := h
  refine ⟨fun m S C => C = [] ∧ ∃ e : Nat, S = [some (.of (.str l)), some (.of (.int i)), some (.of (.int e))] ∧ i ≤ e ∧ e ≤ l.length ∧ m = l.length - e ∧ i + wE (l.drop i) = e + wE (l.drop e), ⟨_, rfl, i, rfl, Nat.le_refl _, hi, rfl, rfl⟩, ?_⟩
  rintro m S C ⟨rfl, e, rfl, h1, h2, rfl, h3⟩
  have fin : wE (l.drop e) = 0 → Q (.of (.int e)) [] := fun z => by rw [h3, z] at hq; exact hq
  refine ⟨hz, iteD (fun c => ?_) (fun c => fin (wE_end (by omega)))⟩
  have c' : e < l.length := by omega
  obtain ⟨x, hx⟩ : ∃ x, l[e]? = some x := ⟨_, List.getElem?_eq_getElem c'⟩
  have hd := wE_drop hx
  have go : isLF x = true → ∃ m' : Nat, m' < l.length - e ∧ ([] : Cs) = [] ∧ ∃ e' : Nat, [some (DV.of (.str l)), some (.of (.int i)), some (.of (.int ((e : Int) + 1)))] = [some (DV.of (.str l)), some (.of (.int i)), some (.of (.int e'))] ∧ i ≤ e' ∧ e' ≤ l.length ∧ m' = l.length - e' ∧ i + wE (l.drop i) = e' + wE (l.drop e') := fun q => by
    rw [if_pos q] at hd
    exact ⟨_, by omega, rfl, e + 1, rfl, by omega, by omega, rfl, by omega⟩
  refine ⟨hz, x, atN hx, iteB (fun a => ?_) (fun a => ?_)⟩
  · exact go (by unfold isLF; rw [show isL x = true from a]; rfl)
  · refine ⟨hz, x, atN hx, iteB (fun b => ?_) (fun b => ?_)⟩
    · exact go (by unfold isLF; rw [show isF x = true from b, Bool.or_true])
    · have nq : isLF x = false := by unfold isLF; rw [show isF x = false from b, show isL x = false from a]; rfl
      rw [nq, if_neg (by decide)] at hd
      exact fin hd

def ofTok (i : Nat) : Option Nat → D
  | none => .non
  | some n => .int (i + n : Nat)
theorem in_prs (l : List Nat) : inF (.str l) [.str [61, 61], .str [33, 61], .str [60, 61], .str [62, 61], .str [38, 38], .str [124, 124], .str [45, 62]] = decide (l ∈ prs) := by
  have q : ∀ y : List Nat, eqF (.str y) (.str l) = decide (l = y) := fun y => by
    show (y == l) = _
    rw [Bool.eq_iff_iff]
    simp only [beq_iff_eq, decide_eq_true_eq]
    exact ⟨Eq.symm, Eq.symm⟩
  unfold inF prs
  simp only [List.any_cons, List.any_nil, q, Bool.or_false, List.mem_cons, List.not_mem_nil, or_false, Bool.decide_or]
def sp_token_end : DSp := fun xs C Q => ∃ (l : List Nat) (i : Nat), xs = [.of (.str l), .of (.int i)] ∧ C = [] ∧ Z16 l.length ∧ i < l.length ∧ Q (.of (ofTok i (tokLen (l.drop i)))) []
theorem cal_word_end_2 {P : Program} {w : World} {K : PySem.W.Frag} {mg : Str → Option Value} {base : Heap} (T : Top w K mg) : Callee P w K mg base CX0 1 "word_end" (rawSp K 2 sp_word_end) [] := by
  obtain ⟨fd, F, S⟩ := ok_word_end (P := P) T
  have hB : Binds K fd ["row", "at"] [] := F.bindsN (fun _ _ _ _ _ _ us hl => match us, hl with | [_, _], _ => rfl)
  exact ⟨fd, _, [], S base, T.g_word_end, F.kp, hB, .nil⟩
theorem cal_word_end_2_r {w : World} {K : PySem.W.Frag} {mg : Str → Option Value} (T : Top w K mg) : ∀ W, RepVs K W [] ([] : List DV) := fun W => .nil
theorem ok_token_end {P : Program} {w : World} {K : PySem.W.Frag} {mg : Str → Option Value} (T : Top w K mg) : ∃ fd : FuncData, FunD K "token_end" "token_end" (defArgs st_token_end) (defBody st_token_end) (defScope st_token_end) (dd_token_end.dvs K) (dd_token_end.kws K) (He.ga K "token_end") fd ∧ ∀ base : Heap, FnOk P w K mg base CX0 2 (He.ga K "token_end") fd ["row", "at"] (rawSp K 2 sp_token_end) := by
  obtain ⟨fd, F⟩ := T.f_token_end
  refine ⟨fd, F, fun base => fn_d F sc_token_end (fun cdv A outer s H E hr => ⟨_, _, QSs.nox
 ((qss_cons (qs_set (i := 2) sc_token_end.nd rfl (Or.inl rfl) (qe_ix xq_str (qv 0) (qv 1) (fun _ _ => rfl)))
 (qss_cons (qs_if (qt_cmpR oq_eq (qv 2) (qe_strc (l := [34]) (by decide +kernel)) (nomark _))
 (qss_cons (qs_set (i := 3) sc_token_end.nd rfl (Or.inl rfl) (qe_find3 rfl (qv 0) (qa_cons (qe_strc (l := [34]) (by decide +kernel)) (qa_cons (qe_op oq_add (qv 1) qe_int) qa_nil))))
 (qss_one (qs_ret (qe_ifExp (qt_cmpR oq_lt (qv 3) qe_int (nomark _)) qe_non (qe_op oq_add (qv 3) qe_int)))))
 qss_nil)
 (qss_cons (qs_if (QW.qt (qw_or (qt_cmpR oq_in_sign (qv 2) (qe_gs T.s_LETTERS) (by rfl)) (qw_or1 (qt_cmpR oq_in_sign (qv 2) (qe_gs T.s_FIGURES) (by rfl)))))
 (qss_one (qs_ret (qc (mds := [.b, .b]) (cal_word_end_2 (K := K) T) (cal_word_end_2_r (K := K) T) hr (by decide) L2.pass0 rfl rfl (qa_cons (qv 0) (qa_cons (qv 1) qa_nil)))))
 qss_nil)
 (qss_one (qs_ret (qe_ifExp (qt_cmpR (oq_in_seq rfl) (qe_slice lq_str (qv 0) (qo_some (qv 1)) (qo_some (qe_op oq_add (qv 1) qe_int))) (qe_gt T.g_PAIRS T.tup_PAIRS (fun _ => (.cons _ _ _ _ (rep_of (l := [61, 61]) (by decide +kernel)) (.cons _ _ _ _ (rep_of (l := [33, 61]) (by decide +kernel)) (.cons _ _ _ _ (rep_of (l := [60, 61]) (by decide +kernel)) (.cons _ _ _ _ (rep_of (l := [62, 61]) (by decide +kernel)) (.cons _ _ _ _ (rep_of (l := [38, 38]) (by decide +kernel)) (.cons _ _ _ _ (rep_of (l := [124, 124]) (by decide +kernel)) (.cons _ _ _ _ (rep_of (l := [45, 62]) (by decide +kernel)) .nil))))))))) (by rfl)) (qe_op oq_add (qv 1) qe_int) (qe_op oq_add (qv 1) qe_int)))))))), fun xs C Q hlen h => ?_⟩)⟩
  obtain ⟨l, i, rfl, rfl, hz, hi, hq⟩ := h
  obtain ⟨c, r, hd⟩ : ∃ c r, l.drop i = c :: r := ⟨_, _, List.drop_eq_getElem_cons hi⟩
  have hx : l[i]? = some c := by
    have q : (l.drop i)[0]? = some c := by rw [hd]; rfl
    rwa [List.getElem?_drop, Nat.add_zero] at q
  have hr1 : l.drop (i + 1) = r := by
    have q : (l.drop i).drop 1 = r := by rw [hd]; rfl
    rwa [List.drop_drop] at q
  rw [hd, tokLen_cons] at hq
  refine ⟨hz, c, atN hx, iteD (fun c34 => ?_) (fun c34 => ?_)⟩
  · have c34' : c = 34 := by injection c34
    rw [if_pos c34'] at hq
    have hf := find_q l i hi
    rw [hr1] at hf
    show (fun z : Int => if decide (z < 0) = true then Q (.of .non) [] else Q (.of (.int (z + 1))) []) (Txt.find3 ⟨l.toArray⟩ ⟨([34] : List Nat).toArray⟩ ((i : Int) + 1))
    rw [hf]
    cases q : qAt r with
    | none => rw [q] at hq; exact iteT hq
    | some k =>
      rw [q] at hq
      refine iteD (fun h => absurd h (by show ¬ (i : Int) + 1 + (k : Nat) < 0; omega)) (fun _ => ?_)
      have e : (i : Int) + 1 + (k : Int) + 1 = ((i + (k + 2) : Nat) : Int) := by omega
      show Q (.of (.int ((i : Int) + 1 + (k : Nat) + 1))) []
      rw [e]; exact hq
  · have c34' : ¬ c = 34 := fun z => c34 (by rw [z])
    rw [if_neg c34'] at hq
    have wcall : isLF c = true → sp_word_end [.of (.str l), .of (.int i)] [] Q := fun q => by
      rw [if_pos q] at hq
      refine ⟨l, i, rfl, rfl, hz, by omega, ?_⟩
      rw [hd, wE_pos q]; exact hq
    refine iteB (fun a => ?_) (fun a => ?_)
    · have := wcall (by unfold isLF; rw [show isL c = true from a]; rfl)
      obtain ⟨l', i', e1, e2, e3, e4, e5⟩ := this
      exact ⟨l', i', e1, e2, e3, e4, e5⟩
    · refine iteB (fun b => ?_) (fun b => ?_)
      · obtain ⟨l', i', e1, e2, e3, e4, e5⟩ := wcall (by unfold isLF; rw [show isF c = true from b, Bool.or_true])
        exact ⟨l', i', e1, e2, e3, e4, e5⟩
      · have nq : ¬ isLF c = true := by unfold isLF; rw [show isF c = false from b, show isL c = false from a]; decide
        rw [if_neg nq] at hq
        refine ⟨hz, ⟨rfl, rfl⟩, ?_⟩
        show if inF (.str (cutD l (some (i : Int)) (some ((i : Int) + 2)))) _ = true then _ else _
        rw [in_prs, show ((i : Int) + 2) = ((i + 2 : Nat) : Int) from rfl, cutD_nat, hd, Nat.add_sub_cancel_left]
        refine iteD (fun p => ?_) (fun p => ?_)
        · rw [if_pos p] at hq; exact hq
        · rw [if_neg p] at hq; exact hq


end Z

namespace Z
open PySem PySem.Spec PyProof.Rows L2
/-! ### pieces -/
theorem putF_Piece_1 (x0 x1 : V) : putF ("signs" : Str) x1 ([(("text" : Str), x0)] : List (Str × V)) = ([(("text" : Str), x0), (("signs" : Str), x1)] : List (Str × V)) := by
  rw [putF_ne _ _ _ (by decide +kernel), putF_nil]
theorem putF_Piece_2 (x0 x1 x2 : V) : putF ("paint" : Str) x2 ([(("text" : Str), x0), (("signs" : Str), x1)] : List (Str × V)) = ([(("text" : Str), x0), (("signs" : Str), x1), (("paint" : Str), x2)] : List (Str × V)) := by
  rw [putF_ne _ _ _ (by decide +kernel), putF_ne _ _ _ (by decide +kernel), putF_nil]
theorem ok_Piece_init {P : Program} {w : World} {K : PySem.W.Frag} {mg : Str → Option Value} (T : Top w K mg) : ∃ fd : FuncData, FunD K "__init__" "Piece.__init__" (defArgs st_Piece_init) (defBody st_Piece_init) (defScope st_Piece_init) (dd_Piece_init.dvs K) (dd_Piece_init.kws K) (He.ma K (He.ga K "Piece") "__init__") fd ∧ ∀ base : Heap, FnOk P w K mg base CX0 1 (He.ma K (He.ga K "Piece") "__init__") fd ["self", "text", "signs", "paint"] (recSp K "Piece" ["text", "signs", "paint"]) := by
  obtain ⟨fd, F⟩ := T.f_Piece_init
  refine ⟨fd, F, fun base => F.ok sc_Piece_init (fun vs H Q E h => by obtain ⟨a, dx, xs, rfl, hl, _, _⟩ := h; exact congrArg (· + 1) hl) (fun cdv A outer s H vs Q E hr h => ⟨_, PSs.nox
 ((pss_cons (ps_fld (pv 0) (pv 1) rfl)
 (pss_cons (ps_fld (pv 0) (pv 2) rfl)
 (pss_one (ps_fld (pv 0) (pv 3) rfl))))), ?_⟩)⟩
  obtain ⟨a, dx, xs, rfl, hl, ha, kQ⟩ := h
  match xs, hl with
  | [x0, x1, x2], _ =>
  have c := T.ci_Piece.cls
  refine ⟨_, rfl, _, rfl, a, _, dx, _, rfl, ha, c, T.na_Piece_text, by simp, ?_⟩
  rw [putF_nil]
  refine ⟨_, rfl, _, rfl, a, _, dx, _, rfl, upd_same, c, T.na_Piece_signs, by simp, ?_⟩
  rw [putF_Piece_1]
  refine ⟨_, rfl, _, rfl, a, _, dx, _, rfl, upd_same, c, T.na_Piece_paint, by simp, ?_⟩
  rw [putF_Piece_2]
  rw [upd_upd, upd_upd]
  exact kQ

def sp_Piece_stands : DSp := fun xs C Q => ∃ (p : PC) (s : SG) (r : List SG), xs = [.of (dPc p)] ∧ C = [] ∧ p.signs = s :: r ∧ Q (.of (.tup [.str s.page, .int s.row, .int s.col])) []
def sp_pieces_of : DSp := fun xs C Q => ∃ (l page : List Nat) (number : Int) (t : List Tk), xs = [.of (.str l), .of (.str page), .of (.int number)] ∧ C = [] ∧ l.length ≤ 100000 ∧ lexOf 0 l = .ok t ∧ Q (.cel 0) [.lst (dPcs (t.map (pcO page number)))]
theorem cal_token_end_2 {P : Program} {w : World} {K : PySem.W.Frag} {mg : Str → Option Value} {base : Heap} (T : Top w K mg) : Callee P w K mg base CX0 2 "token_end" (rawSp K 2 sp_token_end) [] := by
  obtain ⟨fd, F, S⟩ := ok_token_end (P := P) T
  have hB : Binds K fd ["row", "at"] [] := F.bindsN (fun _ _ _ _ _ _ us hl => match us, hl with | [_, _], _ => rfl)
  exact ⟨fd, _, [], S base, T.g_token_end, F.kp, hB, .nil⟩
theorem cal_token_end_2_r {w : World} {K : PySem.W.Frag} {mg : Str → Option Value} (T : Top w K mg) : ∀ W, RepVs K W [] ([] : List DV) := fun W => .nil
theorem mkr_Piece_init_2 {P : Program} {w : World} {K : PySem.W.Frag} {mg : Str → Option Value} {base : Heap} (T : Top w K mg) : Maker P w K mg base CX0 1 "Piece" (recSp K "Piece" ["text", "signs", "paint"]) [V.ref (He.dflAt ("Piece", some "__init__") 0 K)] := by
  obtain ⟨fd, F, S⟩ := ok_Piece_init (P := P) T
  obtain ⟨ds, hV, hB⟩ := F.binds1 (ps := ["self", "text", "signs", "paint"]) 3 0 (fun z => nomatch z) rfl (fun _ _ _ _ _ _ _ us its h1 h2 => match us, its, h1, h2 with | [_, _, _], [_], _, _ => ⟨_, rfl, rfl⟩)
  exact ⟨_, fd, _, ds, T.mk_Piece, S base, T.g_Piece, hB, hV⟩
theorem mkr_Piece_init_2_r {w : World} {K : PySem.W.Frag} {mg : Str → Option Value} (T : Top w K mg) : ∀ W, RepVs K W [V.ref (He.dflAt ("Piece", some "__init__") 0 K)] ([.of (.tup [])] : List DV) := fun W => (RepVs.cons _ (.of (.tup [])) _ _ (Rep.tupK _ [] [] (T.dfl_Piece_init_0) .nil) .nil)
theorem ok_pieces_of {P : Program} {w : World} {K : PySem.W.Frag} {mg : Str → Option Value} (T : Top w K mg) : ∃ fd : FuncData, FunD K "pieces_of" "pieces_of" (defArgs st_pieces_of) (defBody st_pieces_of) (defScope st_pieces_of) (dd_pieces_of.dvs K) (dd_pieces_of.kws K) (He.ga K "pieces_of") fd ∧ ∀ base : Heap, FnOk P w K mg base CX0 3 (He.ga K "pieces_of") fd ["row", "page", "number"] (rawSp K 3 sp_pieces_of) := by
  obtain ⟨fd, F⟩ := T.f_pieces_of
  refine ⟨fd, F, fun base => fn_d F sc_pieces_of (fun cdv A outer s H E hr => ⟨_, _, QSs.nox
 ((qss_cons (qs_set (i := 3) sc_pieces_of.nd rfl (Or.inl rfl) (qe_lst qa_nil))
 (qss_cons (qs_set (i := 4) sc_pieces_of.nd rfl (Or.inl rfl) qe_int)
 (qss_cons (qs_while PassesOwn.never (qt_cmpR oq_lt (qv 4) (qe_callB cq_len_str (by rfl) T.n_len (by decide +kernel) (qa_cons (qv 0) qa_nil)) (nomark _))
 (qss_cons (qs_set (i := 5) sc_pieces_of.nd rfl (Or.inl rfl) (qe_op oq_add (qv 4) qe_int))
 (qss_cons (qs_if (qt_cmpR oq_ne (qe_ix xq_str (qv 0) (qv 4) (fun _ _ => rfl)) (qe_strc (l := [32]) (by decide +kernel)) (nomark _))
 (qss_cons (qs_set (i := 5) sc_pieces_of.nd rfl (Or.inl rfl) (qc (mds := [.b, .b]) (cal_token_end_2 (K := K) T) (cal_token_end_2_r (K := K) T) hr (by decide) L2.pass0 rfl rfl (qa_cons (qv 0) (qa_cons (qv 4) qa_nil))))
 (qss_cons (qs_if (qt_cmpR oq_isN (qv 5) qe_non (nomark _))
 (qss_one qs_never)
 qss_nil)
 (qss_one (qs_expr (qe_bmL rfl PySem.F.slot_list_append PySem.F.type_list_append mt_append refM_append (qv 3) (qa_cons (qmk (mkr_Piece_init_2 (K := K) T) (mkr_Piece_init_2_r (K := K) T) hr (by decide) L2.pass0 rfl rfl (qa_cons (qe_slice lq_str (qv 0) (qo_some (qv 4)) (qo_some (qv 5))) (qa_cons (qe_tupleOf rfl (by rfl) T.n_tuple (qe_lc (own := [("column", 6)]) rfl sc_pieces_of.nd (qi_range2 rfl T.n_range (qa_cons (qv 4) (qa_cons (qv 5) qa_nil))) (blkOk_by (N := ["row", "page", "number", "found", "at", "end", "column"]) (sc := defScope st_pieces_of) (by decide +kernel)) (fun _ _ _ _ _ => (qg_name (i := 6) sc_pieces_of.nd rfl (Or.inl rfl))) (gown_name (by decide)) (fun _ _ _ _ _ => qts_nil) (fun _ _ _ _ _ => (qe_tup (qa_cons (qv 1) (qa_cons (qv 2) (qa_cons (qv 6) (qa_cons (qe_tup qa_nil) qa_nil)))))))) qa_nil))) qa_nil))))))
 qss_nil)
 (qss_one (qs_set (i := 4) sc_pieces_of.nd rfl (Or.inl rfl) (qv 5))))))
 (qss_one (qs_ret (qv 3))))))), fun xs C Q hlen h => ?_⟩)⟩
  obtain ⟨l, page, number, t, rfl, rfl, hz, hlex, hq⟩ := h
  refine ⟨fun m S C => ∃ (n : Nat) (acc : List Tk) (o : Option DV), S = [some (.of (.str l)), some (.of (.str page)), some (.of (.int number)), some (.cel 0), some (.of (.int n)), o, none] ∧ C = [.lst (dPcs (acc.map (pcO page number)))] ∧ n ≤ l.length ∧ acc.length ≤ n ∧ m = l.length - n ∧ lexOf 0 l = cat acc (lexOf n (l.drop n)), ⟨_, 0, [], none, rfl, rfl, by omega, Nat.le_refl _, rfl, by rw [cat_nil, List.drop_zero]⟩, ?_⟩
  rintro m S C ⟨n, acc, o, rfl, rfl, hn, ha, rfl, hl⟩
  refine ⟨by show l.length ≤ _; omega, iteD (fun c1 => ?_) (fun c1 => ?_)⟩
  · have c1' : n < l.length := by omega
    obtain ⟨c, r, hd⟩ : ∃ c r, l.drop n = c :: r := ⟨_, _, List.drop_eq_getElem_cons c1'⟩
    have hx : l[n]? = some c := by
      have q : (l.drop n)[0]? = some c := by rw [hd]; rfl
      rwa [List.getElem?_drop, Nat.add_zero] at q
    have dn : ∀ k, l.drop (n + k) = (c :: r).drop k := fun k => by rw [← hd, List.drop_drop]
    rw [hd] at hl
    refine ⟨by show l.length ≤ _; omega, c, atN hx, ?_⟩
    refine iteDN (fun c2 => ?_) (fun c2 => ?_)
    · have c2' : c ≠ 32 := fun z => c2 (by rw [z])
      cases hk : tokLen (c :: r) with
      | none =>
        exfalso
        rw [lexOf_none c2' hk, hlex] at hl
        cases hl
      | some k =>
        rw [lexOf_some c2' hk, cat_cat] at hl
        have hb := tokLen_le hk
        have hrl : n + (r.length + 1) = l.length := by
          have := congrArg List.length hd
          rw [List.length_drop, List.length_cons] at this
          omega
        refine ⟨l, n, rfl, rfl, by show l.length ≤ _; omega, c1', ?_⟩
        rw [hd, hk]

        refine ⟨by show l.length ≤ _; omega, ⟨by omega, by omega, by omega, by omega⟩, ?_⟩
        have ek : (((n + k : Nat) : Int) - (n : Int)).toNat = k := by omega
        rw [ek]
        refine ⟨fun i a C => a = (List.range i).map (fun j => dSg ⟨page, number, (n + j : Nat), []⟩) ∧ C = [.lst (dPcs (acc.map (pcO page number)))], ⟨rfl, rfl⟩, fun _ _ _ _ => True.intro, ?_, ?_⟩
        · rintro i a C d hd ⟨rfl, rfl⟩
          have hi : i < k := by
            have := (List.getElem?_eq_some_iff.mp hd).1
            rwa [rngD_len] at this
          rw [rngD_at hi] at hd
          cases hd
          refine ⟨by rw [List.length_map, List.length_range]; omega, ?_, rfl⟩
          rw [List.range_succ, List.map_append]; rfl
        · rintro a C ⟨rfl, rfl⟩
          rw [rngD_len]
          have e1 : cutD l (some (n : Int)) (some ((n + k : Nat) : Int)) = (c :: r).take k := by rw [cutD_nat, hd, Nat.add_sub_cancel_left]
          have lk : ((c :: r).take k).length = k := by rw [List.length_take, List.length_cons]; omega
          refine ⟨by show (dPcs _).length + 1 ≤ _; rw [List.length_map, List.length_map]; omega, ?_⟩
          rw [e1]
          refine ⟨_, by omega, n + k, acc ++ [((c :: r).take k, n)], _, rfl, ?_, by omega, by rw [List.length_append]; show acc.length + 1 ≤ _; omega, rfl, by rw [dn]; exact hl⟩
          show [DC.lst (dPcs (acc.map (pcO page number)) ++ [_])] = _
          rw [List.map_append, dPcs_app]
          show _ = [DC.lst (_ ++ [dPc (pcO page number ((c :: r).take k, n))])]
          unfold dPc pcO
          rw [lk, List.map_map]
          rfl
    · have c2' : c = 32 := by injection c2
      subst c2'
      rw [lexOf_bl] at hl
      refine ⟨_, by omega, n + 1, acc, _, rfl, rfl, by omega, by omega, rfl, ?_⟩
      rw [dn 1]; exact hl
  · have e0 : n = l.length := by omega
    subst e0
    rw [List.drop_eq_nil_of_le (by omega), lexOf_nil, hlex] at hl
    have et : t = acc := by
      have q : Except.ok t = Except.ok (acc ++ []) := hl
      rw [List.append_nil] at q
      exact Except.ok.inj q
    subst et
    exact hq

/-! ### is_apart, written -/
def sp_is_apart : DSp := fun xs C Q => ∃ (x y : List Nat), xs = [.of (.str x), .of (.str y)] ∧ C = [] ∧ x.length ≤ 1000000 ∧ y.length ≤ 1000000 ∧ 0 < x.length ∧ Q (.of (.bl (apart x y))) []
/-- the written texts of pieces, the last one told -/
def lastOf : Option (List Nat) → List (List Nat) → Option (List Nat)
  | o, [] => o
  | _, w :: ws => lastOf (some w) ws
theorem wr_app : ∀ (o : Option (List Nat)) (a b : List (List Nat)), wr o (a ++ b) = wr o a ++ wr (lastOf o a) b
  | o, [], b => by cases o <;> simp [lastOf, wr]
  | none, w :: a, b => by
    show w ++ wr (some w) (a ++ b) = w ++ wr (some w) a ++ wr (lastOf (some w) a) b
    rw [wr_app (some w) a b, List.append_assoc]
  | some l, w :: a, b => by
    show (if apart l w then w else 32 :: w) ++ wr (some w) (a ++ b) = (if apart l w then w else 32 :: w) ++ wr (some w) a ++ wr (lastOf (some w) a) b
    rw [wr_app (some w) a b, List.append_assoc]
theorem last_app : ∀ (o : Option (List Nat)) (a b : List (List Nat)), lastOf o (a ++ b) = lastOf (lastOf o a) b
  | o, [], b => by cases o <;> rfl
  | o, w :: a, b => last_app (some w) a b
def sumL (ws : List (List Nat)) : Nat := (ws.map fun w => w.length + 1).sum
theorem wr_len : ∀ (o : Option (List Nat)) (ws : List (List Nat)), (wr o ws).length ≤ sumL ws
  | o, [] => by cases o <;> simp [wr]
  | none, w :: ws => by
    have := wr_len (some w) ws
    show (w ++ wr (some w) ws).length ≤ _
    unfold sumL at this ⊢
    rw [List.length_append, List.map_cons, List.sum_cons]; omega
  | some l, w :: ws => by
    have := wr_len (some w) ws
    show ((if apart l w then w else 32 :: w) ++ wr (some w) ws).length ≤ _
    unfold sumL at this ⊢
    rw [List.length_append, List.map_cons, List.sum_cons]
    split
    · omega
    · rw [List.length_cons]; omega
theorem sumL_take : ∀ (ws : List (List Nat)) (i : Nat), sumL (ws.take i) ≤ sumL ws
  | [], i => by simp
  | w :: ws, 0 => by simp [sumL]
  | w :: ws, i + 1 => by
    have := sumL_take ws i
    unfold sumL at this ⊢
    rw [List.take_succ_cons, List.map_cons, List.sum_cons, List.map_cons, List.sum_cons]; omega
theorem sumL_mem : ∀ {ws : List (List Nat)} {w : List Nat}, w ∈ ws → w.length + 1 ≤ sumL ws
  | [], w, h => by simp at h
  | a :: ws, w, h => by
    unfold sumL
    rw [List.map_cons, List.sum_cons]
    rcases List.mem_cons.mp h with rfl | h2
    · omega
    · have := sumL_mem h2
      unfold sumL at this; omega
theorem last_mem : ∀ {ws : List (List Nat)} {o : Option (List Nat)} {l : List Nat}, lastOf o ws = some l → o = some l ∨ l ∈ ws
  | [], o, l, h => .inl (by cases o <;> exact h)
  | w :: ws, o, l, h => by
    rcases last_mem (ws := ws) (o := some w) h with e | e
    · exact .inr (by rw [Option.some.inj e]; simp)
    · exact .inr (by simp [e])
def texts (ps : List PC) : List (List Nat) := ps.map fun p => p.text
def optD : Option (List Nat) → D
  | none => .non
  | some l => .str l
def sp_written : DSp := fun xs C Q => ∃ (ps : List PC), xs = [.bor (dPcs ps)] ∧ C = [] ∧ (∀ x ∈ ps, x.text ≠ []) ∧ sumL (texts ps) ≤ 1000000 ∧ Q (.of (.str (wr none (texts ps)))) []

end Z

namespace Z
open PySem PySem.Spec PyProof.Rows L2
/-! ### pieces compared -/
theorem eqD_sg (a b : SG) : eqD (dSg a) (dSg b) = decide (a = b) := by
  show (eqD (.str a.page) (.str b.page) && (eqD (.int a.row) (.int b.row) && (eqD (.int a.col) (.int b.col) && (eqDs (dStrs a.way) (dStrs b.way) && true)))) = _
  rw [eqD_str, eqD_int, eqD_int, eqDs_strs, Bool.and_true]
  obtain ⟨a1, a2, a3, a4⟩ := a
  obtain ⟨b1, b2, b3, b4⟩ := b
  rw [Bool.eq_iff_iff]
  simp only [Bool.and_eq_true, decide_eq_true_eq, SG.mk.injEq]
theorem pl_sgs (l : List SG) : plD 40 (.tup (l.map dSg)) = true := by
  refine plD_tup (plDs_map (fun a => ?_) l)
  refine plD_tup ?_
  show (plD 38 (.str a.page) && (plD 38 (.int a.row) && (plD 38 (.int a.col) && (plDs 37 (dStrs a.way) && true)))) = true
  rw [plD_str, plD_int, plD_int, plDs_strs]; rfl
def sp_Piece_eq : DSp := fun xs C Q => ∃ (p : PC) (x : DV) (r : Bool), xs = [.of (dPc p), x] ∧ C = [] ∧ ((∃ p2, x = .of (dPc p2) ∧ r = decide (p = p2)) ∨ (notOwn x [] ∧ r = false)) ∧ Q (.of (.bl r)) []
theorem ok_Piece_eq {P : Program} {w : World} {K : PySem.W.Frag} {mg : Str → Option Value} (T : Top w K mg) : ∃ fd : FuncData, FunD K "__eq__" "Piece.__eq__" (defArgs st_Piece_eq) (defBody st_Piece_eq) (defScope st_Piece_eq) (dd_Piece_eq.dvs K) (dd_Piece_eq.kws K) (He.ma K (He.ga K "Piece") "__eq__") fd ∧ ∀ base : Heap, FnOk P w K mg base CX0 1 (He.ma K (He.ga K "Piece") "__eq__") fd ["self", "other"] (rawSp K 2 sp_Piece_eq) := by
  obtain ⟨fd, F⟩ := T.f_Piece_eq
  refine ⟨fd, F, fun base => fn_d F sc_Piece_eq (fun cdv A outer s H E hr => ⟨_, _, QSs.nox
 ((qss_cons (qs_if (qt_not (qt_val (qe_callB (cq_isiC (K := K) (y := "Piece") rfl T.ci_Piece [("Piece", true)] (List.forall_mem_cons.mpr ⟨⟨T.ci_Piece, T.kc_Piece_Piece⟩, (fun _ h => nomatch h)⟩)) (by rfl) T.n_isinstance (by decide +kernel) (qa_cons (qv 1) (qa_cons (qe_gr T.g_Piece) qa_nil)))))
 (qss_one (qs_ret qe_bl))
 qss_nil)
 (qss_one (qs_ret (qe_and (qe_cmpR oq_eq (qe_fld rfl T.cl_Piece T.na_Piece_text (qv 0) rfl) (qe_fld rfl T.cl_Piece T.na_Piece_text (qv 1) rfl) (nomark _)) (qe_and (qe_cmpR (oq_eqW rfl hr.units) (qe_fld rfl T.cl_Piece T.na_Piece_signs (qv 0) rfl) (qe_fld rfl T.cl_Piece T.na_Piece_signs (qv 1) rfl) (nomark _)) (qe_one (qe_cmpR (oq_eqW rfl hr.units) (qe_fld rfl T.cl_Piece T.na_Piece_paint (qv 0) rfl) (qe_fld rfl T.cl_Piece T.na_Piece_paint (qv 1) rfl) (nomark _))))))))), fun xs C Q hlen h => ?_⟩)⟩
  obtain ⟨p, x, r, rfl, rfl, hc, hq⟩ := h
  rcases hc with ⟨p2, rfl, rfl⟩ | ⟨hn, rfl⟩
  · refine ⟨rfl, true, .head _, ?_⟩
    refine ⟨rfl, _, rfl, rfl, _, rfl, ?_⟩
    have hpe : decide (p = p2) = (decide (p.text = p2.text) && (decide (p.signs = p2.signs) && decide (p.paint = p2.paint))) := by
      obtain ⟨a1, a2, a3⟩ := p
      obtain ⟨b1, b2, b3⟩ := p2
      rw [Bool.eq_iff_iff]
      simp only [Bool.and_eq_true, decide_eq_true_eq, PC.mk.injEq]
    rw [hpe] at hq
    by_cases h1 : p.text = p2.text
    · refine iteD (fun _ => ?_) (fun g => absurd h1 g)
      rw [decide_eq_true h1, Bool.true_and] at hq
      refine ⟨rfl, _, rfl, rfl, _, rfl, ⟨pl_sgs _, pl_sgs _⟩, ?_⟩
      show if eqDs (p.signs.map dSg) (p2.signs.map dSg) = true then _ else _
      rw [eqDs_map eqD_sg]
      by_cases h2 : p.signs = p2.signs
      · refine iteD (fun _ => ?_) (fun g => absurd h2 g)
        rw [decide_eq_true h2, Bool.true_and] at hq
        refine ⟨rfl, _, rfl, rfl, _, rfl, ⟨plD_tup (plDs_strs 39 _), plD_tup (plDs_strs 39 _)⟩, ?_⟩
        show Q (.of (.bl (eqDs (dStrs _) (dStrs _)))) []
        rw [eqDs_strs]
        exact hq
      · refine iteD (fun g => absurd g h2) (fun _ => ?_)
        rw [decide_eq_false h2, Bool.false_and] at hq
        exact hq
    · refine iteD (fun g => absurd g h1) (fun _ => ?_)
      rw [decide_eq_false h1, Bool.false_and] at hq
      exact hq
  · unfold notOwn at hn
    refine ⟨rfl, ?_⟩
    show (match kindX x [] with | some (.own c) => _ | some _ => _ | none => False : Prop)
    cases hk : kindX x [] with
    | none => rw [hk] at hn; exact hn.elim
    | some k =>
      rw [hk] at hn
      cases k <;> first | exact hq | exact hn.elim


end Z

namespace Z
open PySem PySem.Spec PyProof.Rows L2
/-! ### the purse of draws -/
structure Pu where
  n : Int
  c : Int
  t : Int
abbrev pu (p : Pu) : DC := .pl [.int p.n, .int p.c, .int p.t]
abbrev puL (p : Pu) : DC := .lst [.int p.n, .int p.c, .int p.t]
/-- at most k draws so far -/
def PuOk (k : Nat) (p : Pu) : Prop := 0 ≤ p.n ∧ 0 ≤ p.c ∧ p.c < 2 ^ 62 ∧ 0 ≤ p.t ∧ p.t ≤ k
theorem PuOk.mono {k k' : Nat} {p : Pu} (h : PuOk k p) (hk : k ≤ k') : PuOk k' p := ⟨h.1, h.2.1, h.2.2.1, h.2.2.2.1, by have := h.2.2.2.2; omega⟩
theorem b01 (b : Bool) : -(2 ^ 64) < (if b = true then (1 : Int) else 0) ∧ (if b = true then (1 : Int) else 0) < 2 ^ 64 := by cases b <;> decide
theorem m61 : (0 : Int) < 2305843009213693951 := by decide
theorem pu_first (i k : Int) {b : Bool} (k0 : 0 ≤ k) (k1 : k ≤ 63) : PuOk 0 ⟨(if i < 0 then -i else i) * (if b = true then 1 else 0), i % 2305843009213693951 + 7177 * k + 1, 0⟩ := by
  have h1 := Int.emod_nonneg i (show (2305843009213693951 : Int) ≠ 0 by decide)
  have h2 := Int.emod_lt_of_pos i m61
  have h3 : (2 : Int) ^ 62 = 4611686018427387904 := by decide
  refine ⟨Int.mul_nonneg (by split <;> omega) (by cases b <;> decide), ?_, ?_, Int.le_refl _, Int.le_refl _⟩
  · show 0 ≤ i % 2305843009213693951 + 7177 * k + 1
    omega
  · show i % 2305843009213693951 + 7177 * k + 1 < 2 ^ 62
    omega
def sp__law_purse : DSp := fun xs C Q => ∃ (ns : List Int) (k : Int), xs = [.scr (ns.map D.int), .of (.int k)] ∧ C = [] ∧ ns.length ≤ 63 ∧ 0 ≤ k ∧ k ≤ 63 ∧ ∀ p, PuOk 0 p → Q (.cel 0) [puL p]
theorem ok__law_purse {P : Program} {w : World} {K : PySem.W.Frag} {mg : Str → Option Value} (T : Top w K mg) : ∃ fd : FuncData, FunD K "_law_purse" "_law_purse" (defArgs st__law_purse) (defBody st__law_purse) (defScope st__law_purse) (dd__law_purse.dvs K) (dd__law_purse.kws K) (He.ga K "_law_purse") fd ∧ ∀ base : Heap, FnOk P w K mg base CX0 1 (He.ga K "_law_purse") fd ["_law_script", "_law_at"] (rawSp K 2 sp__law_purse) := by
  obtain ⟨fd, F⟩ := T.f__law_purse
  refine ⟨fd, F, fun base => fn_d F sc__law_purse (fun cdv A outer s H E hr => ⟨_, _, QSs.nox
 ((qss_cons (qs_set (i := 2) sc__law_purse.nd rfl (Or.inl rfl) qe_int)
 (qss_cons (qs_if (qt_cmpR oq_lt (qv 1) (qe_callB (cq_len_seq rfl) (by rfl) T.n_len (by decide +kernel) (qa_cons (qv 0) qa_nil)) (nomark _))
 (qss_one (qs_set (i := 2) sc__law_purse.nd rfl (Or.inl rfl) (qe_ix (xq_list rfl) (qv 0) (qv 1) (fun _ _ => rfl))))
 qss_nil)
 (qss_cons (qs_set (i := 3) sc__law_purse.nd rfl (Or.inl rfl) (qe_callB cq_abs (by rfl) T.n_abs (by decide +kernel) (qa_cons (qv 2) qa_nil)))
 (qss_one (qs_ret (qe_lst (qa_cons (qe_op oq_mul (qv 3) (qe_callTy cq_int1 (by rfl) T.n_int (by decide +kernel) (qa_cons (qe_cmpR oq_ge (qv 3) (qe_op oq_pow qe_int qe_int) (nomark _)) qa_nil))) (qa_cons (qe_op oq_add (qe_op oq_add (qe_op oq_mod (qv 2) qe_int) (qe_op oq_mul qe_int (qv 1))) qe_int) (qa_cons qe_int qa_nil)))))))))), fun xs C Q hlen h => ?_⟩)⟩
  obtain ⟨ns, k, rfl, rfl, hl, k0, k1, hq⟩ := h
  refine iteD (fun c => ?w1) (fun c => ?w2)
  case' w1 =>
    rw [List.length_map] at c
    obtain ⟨i, hi⟩ : ∃ i, atI (ns.map D.int) k = some (.int i) := by
      obtain ⟨j, rfl⟩ : ∃ j : Nat, k = (j : Int) := ⟨k.toNat, by omega⟩
      exact ⟨_, atI_map (f := D.int) (atN (List.getElem?_eq_getElem (show j < ns.length by omega)))⟩
    refine ⟨.int i, hi, ?_⟩
  all_goals
    exact ⟨⟨by decide, by decide, by decide⟩, .inr (b01 _), m61, .inl ⟨by decide, by decide⟩, hq ⟨_, _, _⟩ (pu_first _ _ k0 k1)⟩

def prm : List Int := [2147483647, 2147483629, 2147483587, 2147483579, 2147483563, 2147483549, 2147483543]
theorem prm_at {i : Int} : ∃ x, atI (prm.map D.int) (i % 7) = some (.int x) ∧ 2147483543 ≤ x ∧ x ≤ 2147483647 := by
  obtain ⟨x, h1, h2, _⟩ := at_some (l := prm) (Int.emod_nonneg i (show (7 : Int) ≠ 0 by decide)) (Int.emod_lt_of_pos i (by decide))
  refine ⟨x, atI_map (f := D.int) h1, ?_⟩
  have : ∀ y ∈ prm, 2147483543 ≤ y ∧ y ≤ 2147483647 := by decide
  exact this x h2
def sp__law_take : DSp := fun xs C Q => ∃ (p : Pu) (k : Nat) (m : Int), xs = [.cel 0, .of (.int m)] ∧ C = [pu p] ∧ PuOk k p ∧ k ≤ 1000000 ∧ 0 < m ∧ m ≤ 1000000 ∧ ∀ r p', 0 ≤ r → r < m → PuOk (k + 1) p' → Q (.of (.int r)) [pu p']
theorem ok__law_take {P : Program} {w : World} {K : PySem.W.Frag} {mg : Str → Option Value} (T : Top w K mg) : ∃ fd : FuncData, FunD K "_law_take" "_law_take" (defArgs st__law_take) (defBody st__law_take) (defScope st__law_take) (dd__law_take.dvs K) (dd__law_take.kws K) (He.ga K "_law_take") fd ∧ ∀ base : Heap, FnOk P w K mg base CX0 1 (He.ga K "_law_take") fd ["_law_purse_here", "_law_many"] (rawSp K 2 sp__law_take) := by
  obtain ⟨fd, F⟩ := T.f__law_take
  refine ⟨fd, F, fun base => fn_d F sc__law_take (fun cdv A outer s H E hr => ⟨_, _, QSs.nox
 ((qss_cons (qs_if (qt_cmpR oq_gt (qe_ix (xq_list rfl) (qv 0) qe_int (fun _ _ => rfl)) qe_int (nomark _))
 (qss_cons (qs_set (i := 2) sc__law_take.nd rfl (Or.inl rfl) (qe_op oq_mod (qe_ix (xq_list rfl) (qv 0) qe_int (fun _ _ => rfl)) (qv 1)))
 (qss_cons (qs_asg (qe_op oq_fdivW (qe_ix (xq_list rfl) (qv 0) qe_int (fun _ _ => rfl)) (qv 1)) (qg_sub (qv 0) qe_int))
 (qss_one (qs_ret (qv 2)))))
 qss_nil)
 (qss_cons (qs_set (i := 3) sc__law_take.nd rfl (Or.inl rfl) (qe_tup (qa_cons qe_int (qa_cons qe_int (qa_cons qe_int (qa_cons qe_int (qa_cons qe_int (qa_cons qe_int (qa_cons qe_int qa_nil)))))))))
 (qss_cons (qs_asg (qe_op oq_add (qe_ix (xq_list rfl) (qv 0) qe_int (fun _ _ => rfl)) qe_int) (qg_sub (qv 0) qe_int))
 (qss_cons (qs_set (i := 4) sc__law_take.nd rfl (Or.inl rfl) (qe_ix (xq_list rfl) (qv 0) qe_int (fun _ _ => rfl)))
 (qss_cons (qs_set (i := 5) sc__law_take.nd rfl (Or.inl rfl) (qe_op oq_add (qe_op oq_mulW (qe_op oq_add (qe_ix (xq_list rfl) (qv 0) qe_int (fun _ _ => rfl)) (qe_op oq_mul qe_int (qv 4))) (qe_op oq_add (qe_op oq_mul qe_int (qv 4)) qe_int)) (qe_op oq_mulW (qe_op oq_mul qe_int (qv 4)) (qv 4))))
 (qss_cons (qs_set (i := 6) sc__law_take.nd rfl (Or.inl rfl) (qe_op oq_mod (qe_op oq_powW (qv 5) qe_int) (qe_ix (xq_tup rfl) (qv 3) (qe_op oq_mod (qv 4) qe_int) (fun _ _ => rfl))))
 (qss_one (qs_ret (qe_op oq_mod (qe_op oq_fdivW (qe_op oq_mod (qe_op oq_mulW (qv 6) (qe_op oq_add (qe_op oq_add (qe_op oq_fdivW (qv 6) qe_int) (qe_op oq_mul qe_int (qv 4))) qe_int)) (qe_ix (xq_tup rfl) (qv 3) (qe_op oq_mod (qe_op oq_add (qv 4) qe_int) qe_int) (fun _ _ => rfl))) qe_int) (qv 1))))))))))), fun xs C Q hlen h => ?_⟩)⟩
  obtain ⟨p, k, m, rfl, rfl, hp, hk, m0, m1, hq⟩ := h
  obtain ⟨n0, c0, c1, t0, t1⟩ := hp
  refine ⟨_, rfl, iteD (fun c => ?_) (fun c => ?_)⟩
  · refine ⟨_, rfl, m0, _, rfl, wide_div (b := 30) m0 (by omega) (by decide) (by decide), 0, rfl, ?_⟩
    exact hq _ ⟨p.n / m, p.c, p.t⟩ (Int.emod_nonneg _ (by omega)) (Int.emod_lt_of_pos _ m0) ⟨Int.ediv_nonneg n0 (Int.le_of_lt m0), c0, c1, t0, by show p.t ≤ ((k + 1 : Nat) : Int); omega⟩
  have q1 : (p.c + 104729 * (p.t + 1)).natAbs < 2 ^ 63 := by omega
  have q2 : (3 * (p.t + 1) + 2).natAbs < 2 ^ 22 := by omega
  have q3 : (7919 * (p.t + 1)).natAbs < 2 ^ 34 := by omega
  have q4 : (p.t + 1).natAbs < 2 ^ 21 := by omega
  have q5 := wide_lt q1 q2
  have q6 := wide_lt q3 q4
  refine ⟨_, rfl, 2, rfl, ?_⟩
  refine ⟨_, rfl, ?_⟩
  refine ⟨_, rfl, .inl ⟨by decide, by decide⟩, .inl ⟨by decide, by decide⟩, wide_mul q1 q2 (by decide) (by decide) (by decide), .inl ⟨by decide, by decide⟩, wide_mul q3 q4 (by decide) (by decide) (by decide), ?_⟩
  obtain ⟨x, hx, x0, x1⟩ := prm_at (i := p.t + 1)
  obtain ⟨y, hy, y0, y1⟩ := prm_at (i := p.t + 1 + 3)
  refine ⟨⟨by decide, 90, Nat.lt_of_le_of_lt (Int.natAbs_add_le _ _) (by omega), by decide⟩, by show (0 : Int) < 7; decide, .int x, hx, by show 0 < x; omega, ?_⟩
  have g0 : 0 ≤ (((p.c + 104729 * (p.t + 1)) * (3 * (p.t + 1) + 2) + 7919 * (p.t + 1) * (p.t + 1)) ^ Int.toNat 3) % x := Int.emod_nonneg _ (by omega)
  have g1 : (((p.c + 104729 * (p.t + 1)) * (3 * (p.t + 1) + 2) + 7919 * (p.t + 1) * (p.t + 1)) ^ Int.toNat 3) % x < x := Int.emod_lt_of_pos _ (by omega)
  dsimp only
  generalize (((p.c + 104729 * (p.t + 1)) * (3 * (p.t + 1) + 2) + 7919 * (p.t + 1) * (p.t + 1)) ^ Int.toNat 3) % x = z at *
  have u0 : 0 ≤ z / 4099 := Int.ediv_nonneg g0 (by decide)
  have u1 : z / 4099 ≤ z := Int.ediv_le_self _ g0
  refine ⟨wide_div (b := 13) (by decide) (by decide) (by decide) (by decide), .inl ⟨by decide, by decide⟩, wide_mul (a := 32) (b := 33) (by omega) (by omega) (by decide) (by decide) (by decide), by show (0 : Int) < 7; decide, .int y, hy, by show 0 < y; omega, wide_div (b := 5) (by decide) (by decide) (by decide) (by decide), m0, ?_⟩
  exact hq _ ⟨p.n, p.c, p.t + 1⟩ (Int.emod_nonneg _ (by omega)) (Int.emod_lt_of_pos _ m0) ⟨n0, c0, c1, by show 0 ≤ p.t + 1; omega, by show p.t + 1 ≤ ((k + 1 : Nat) : Int); omega⟩


end Z

namespace Z
open PySem PySem.Spec PyProof.Rows L2
/-! ### names, ways, pages, pieces of rows -/
theorem joinL_nil : ∀ ws : List Tx, TL.joinL [] ws = ws.flatten
  | [] => rfl
  | [x] => by show x = _; simp
  | x :: y :: r => by
    show x ++ ([] ++ TL.joinL [] (y :: r)) = _
    rw [joinL_nil (y :: r)]; simp
theorem cutD_le {α : Type} (l : List α) (i j : Option Int) : (cutD l i j).length ≤ l.length := by
  unfold cutD
  rw [List.length_take, List.length_drop]; omega
theorem mem_cutD {α : Type} {l : List α} {i j : Option Int} {x : α} (h : x ∈ cutD l i j) : x ∈ l := by
  unfold cutD at h
  exact List.mem_of_mem_drop (List.mem_of_mem_take h)
def L26 : Tx := cl ("abcdefghijklmnopqrstuvwxyz" : Str)
theorem lL26 : L26.length = 26 := by decide +kernel
def sp__law_names : DSp := fun xs C Q => ∃ (p : Pu) (k : Nat) (m : Int), xs = [.cel 0, .of (.int m)] ∧ C = [pu p] ∧ PuOk k p ∧ k ≤ 900000 ∧ 1 ≤ m ∧ m ≤ 100 ∧ ∀ (ns : List Tx) p', (ns.length : Int) = m → (∀ t ∈ ns, t.length ≤ 9) → PuOk (k + 10) p' → Q (.cel 1) [pu p', .lst (dStrs ns)]
theorem cal__law_take_2 {P : Program} {w : World} {K : PySem.W.Frag} {mg : Str → Option Value} {base : Heap} (T : Top w K mg) : Callee P w K mg base CX0 1 "_law_take" (rawSp K 2 sp__law_take) [] := by
  obtain ⟨fd, F, S⟩ := ok__law_take (P := P) T
  have hB : Binds K fd ["_law_purse_here", "_law_many"] [] := F.bindsN (fun _ _ _ _ _ _ us hl => match us, hl with | [_, _], _ => rfl)
  exact ⟨fd, _, [], S base, T.g__law_take, F.kp, hB, .nil⟩
theorem cal__law_take_2_r {w : World} {K : PySem.W.Frag} {mg : Str → Option Value} (T : Top w K mg) : ∀ W, RepVs K W [] ([] : List DV) := fun W => .nil
theorem ok__law_names {P : Program} {w : World} {K : PySem.W.Frag} {mg : Str → Option Value} (T : Top w K mg) : ∃ fd : FuncData, FunD K "_law_names" "_law_names" (defArgs st__law_names) (defBody st__law_names) (defScope st__law_names) (dd__law_names.dvs K) (dd__law_names.kws K) (He.ga K "_law_names") fd ∧ ∀ base : Heap, FnOk P w K mg base CX0 2 (He.ga K "_law_names") fd ["_law_purse_here", "_law_many"] (rawSp K 2 sp__law_names) := by
  obtain ⟨fd, F⟩ := T.f__law_names
  refine ⟨fd, F, fun base => fn_d F sc__law_names (fun cdv A outer s H E hr => ⟨_, _, QSs.nox
 ((qss_cons (qs_set (i := 2) sc__law_names.nd rfl (Or.inr rfl) qe_str)
 (qss_cons (qs_set (i := 3) sc__law_names.nd rfl (Or.inr rfl) (qe_join rfl (qe_strc (l := []) (by decide +kernel)) (qe_lc (own := [("_law_k", 7)]) rfl sc__law_names.nd (qi_range1 rfl T.n_range (qa_cons (qc (mds := [.io, .b]) (cal__law_take_2 (K := K) T) (cal__law_take_2_r (K := K) T) hr (by decide) L2.pass0 rfl rfl (qa_cons (qv 0) (qa_cons qe_int qa_nil))) qa_nil)) (blkOk_by (N := ["_law_purse_here", "_law_many", "_law_letters", "_law_base", "_law_at", "_law_first", "_law_found", "_law_k", "_law_name"]) (sc := defScope st__law_names) (by decide +kernel)) (fun _ _ _ _ _ => (qg_name (i := 7) sc__law_names.nd rfl (Or.inl rfl))) (gown_name (by decide)) (fun _ _ _ _ _ => qts_nil) (fun _ _ _ _ _ => (qe_ix xq_str (qv 2) (qc (mds := [.io, .b]) (cal__law_take_2 (K := K) T) (cal__law_take_2_r (K := K) T) hr (by decide) L2.pass0 rfl rfl (qa_cons (qv 0) (qa_cons qe_int qa_nil))) (fun _ _ => rfl))))))
 (qss_cons (qs_asg (qe_tup (qa_cons (qc (mds := [.io, .b]) (cal__law_take_2 (K := K) T) (cal__law_take_2_r (K := K) T) hr (by decide) L2.pass0 rfl rfl (qa_cons (qv 0) (qa_cons (qe_op oq_add (qe_callB cq_len_str (by rfl) T.n_len (by decide +kernel) (qa_cons (qv 3) qa_nil)) qe_int) qa_nil))) (qa_cons (qc (mds := [.io, .b]) (cal__law_take_2 (K := K) T) (cal__law_take_2_r (K := K) T) hr (by decide) L2.pass0 rfl rfl (qa_cons (qv 0) (qa_cons qe_int qa_nil))) qa_nil))) (qg_tup (n := 2) rfl rfl (qgs_cons (qg_name (i := 4) sc__law_names.nd rfl (Or.inr rfl)) (qgs_cons (qg_name (i := 5) sc__law_names.nd rfl (Or.inr rfl)) qgs_nil))))
 (qss_cons (qs_setLc (i := 6) (own := [("_law_k", 7)]) rfl sc__law_names.nd rfl rfl (sw_true rfl rfl rfl (by decide +kernel)) (qi_range1 rfl T.n_range (qa_cons (qv 1) qa_nil)) (blkOk_by (N := ["_law_purse_here", "_law_many", "_law_letters", "_law_base", "_law_at", "_law_first", "_law_found", "_law_k", "_law_name"]) (sc := defScope st__law_names) (by decide +kernel)) (fun _ _ _ _ _ => (qg_name (i := 7) sc__law_names.nd rfl (Or.inl rfl))) (gown_name (by decide)) (fun _ _ _ _ _ => qts_nil) (fun _ _ _ _ _ => (qe_op oq_add_str (qe_op oq_add_str (qe_slice lq_str (qv 3) qo_none (qo_some (qv 4))) (qe_ix xq_str (qv 2) (qe_op oq_mod (qe_op oq_add (qv 5) (qv 7)) qe_int) (fun _ _ => rfl))) (qe_slice lq_str (qv 3) (qo_some (qv 4)) qo_none))) refG_nameF)
 (qss_one (qs_ret (qe_lc (own := [("_law_name", 8)]) rfl sc__law_names.nd (qi_list rfl (qv 6)) (blkOk_by (N := ["_law_purse_here", "_law_many", "_law_letters", "_law_base", "_law_at", "_law_first", "_law_found", "_law_k", "_law_name"]) (sc := defScope st__law_names) (by decide +kernel)) (fun _ _ _ _ _ => (qg_name (i := 8) sc__law_names.nd rfl (Or.inl rfl))) (gown_name (by decide)) (fun _ _ _ _ _ => qts_nil) (fun _ _ _ _ _ => (qe_ix (xq_list rfl) (qe_lst (qa_cons (qv 8) (qa_cons (qe_op oq_add_str (qe_strc (l := [104, 97, 116]) (by decide +kernel)) (qe_callTy cq_str_int (by rfl) T.n_str (by decide +kernel) (qa_cons (qv 1) qa_nil))) qa_nil))) (qe_callTy cq_int1 (by rfl) T.n_int (by decide +kernel) (qa_cons (qe_cmpR oq_eq (qv 8) (qe_strc (l := [104, 97, 115]) (by decide +kernel)) (nomark _)) qa_nil)) (fun _ _ => rfl))))))))))), fun xs C Q hlen h => ?_⟩)⟩
  obtain ⟨p, k, m, rfl, rfl, hp, hk, m0, m1, hq⟩ := h
  refine ⟨p, k, 5, rfl, rfl, hp, by omega, by decide, by decide, fun n p1 n0 n1 h1 => ?_⟩
  refine ⟨⟨by omega, by omega⟩, ?_⟩
  refine ⟨fun j acc C => ∃ (ws : List Tx) (p' : Pu), acc = ws.map D.str ∧ ws.length = j ∧ (∀ w ∈ ws, ∃ c, w = [c] ∧ c ∈ L26) ∧ PuOk (k + 1 + j) p' ∧ C = [pu p'], ⟨[], p1, rfl, rfl, fun _ h => (nomatch h), h1, rfl⟩, fun _ _ _ _ => True.intro, ?_, ?_⟩
  · rintro j acc C d hd ⟨ws, p2, rfl, rfl, hw, h2, rfl⟩
    have hj := (List.getElem?_eq_some_iff.mp hd).1
    rw [rngD_len] at hj
    refine ⟨p2, _, 26, rfl, rfl, h2, by omega, by decide, by decide, fun r p3 r0 r1 h3 => ?_⟩
    obtain ⟨c, e1, e2, _⟩ := at_some (l := L26) r0 (by rw [lL26]; exact r1)
    refine ⟨by show L26.length ≤ _; rw [lL26]; decide, c, e1, ?_⟩
    refine ⟨by rw [List.length_map]; omega, ws ++ [[c]], p3, by rw [List.map_append]; rfl, by rw [List.length_append]; rfl, fun w hw' => ?_, h3, rfl⟩
    rcases List.mem_append.mp hw' with q | q
    · exact hw w q
    · rw [List.mem_singleton] at q; exact ⟨c, q, e2⟩
  rintro acc C ⟨ws, p2, rfl, hl, hw, h2, rfl⟩
  rw [rngD_len] at hl h2
  obtain ⟨f0, f1, f2⟩ := flat_onesIn (A := L26) hw
  refine ⟨ws, allS_map ws, by rw [f0]; show ws.length + ws.length * 0 ≤ _; omega, ?_⟩
  rw [show joinT [] ws = ws.flatten from joinL_nil ws]
  generalize ws.flatten = base at *
  have lb : base.length ≤ 4 := by omega
  refine ⟨by show base.length ≤ _; omega, p2, _, _, rfl, rfl, h2, by omega, by omega, by omega, fun a p3 a0 a1 h3 => ?_⟩
  refine ⟨p3, _, 26, rfl, rfl, h3, by omega, by decide, by decide, fun f p4 f0 f1 h4 => ?_⟩
  refine ⟨rfl, ?_⟩
  refine ⟨⟨by omega, by omega⟩, ?_⟩
  have y1 := cutD_le base none (some a)
  have y2 := cutD_le base (some a) none
  refine ⟨fun j acc C => ∃ ts : List Tx, acc = ts.map D.str ∧ ts.length = j ∧ (∀ t ∈ ts, t.length ≤ 9) ∧ C = [pu p4, .lst (ws.map D.str)], ⟨[], rfl, rfl, fun _ h => (nomatch h), rfl⟩, fun _ _ _ _ => True.intro, ?_, ?_⟩
  · rintro j acc C d hd ⟨ts, rfl, rfl, hts, rfl⟩
    obtain ⟨hj, rfl⟩ := rngD_get hd
    obtain ⟨c, e1, e2, _⟩ := at_some (l := L26) (i := (f + (0 + (ts.length : Nat))) % 26) (Int.emod_nonneg _ (by decide)) (by rw [lL26]; exact Int.emod_lt_of_pos _ (by decide))
    refine ⟨by show base.length ≤ _; omega, by show (0 : Int) < 26; decide, by show L26.length ≤ _; rw [lL26]; decide, c, e1, by show (cutD base none (some a)).length + 1 ≤ _; omega, by show base.length ≤ _; omega,
      by show (cutD base none (some a) ++ [c]).length + (cutD base (some a) none).length ≤ _; rw [List.length_append]; show _ + 1 + _ ≤ _; omega, ?_⟩
    refine ⟨by rw [List.length_map]; omega, ts ++ [cutD base none (some a) ++ [c] ++ cutD base (some a) none], by rw [List.map_append]; rfl, by rw [List.length_append]; rfl, fun w hw' => ?_, rfl⟩
    rcases List.mem_append.mp hw' with q | q
    · exact hts w q
    · rw [List.mem_singleton] at q; rw [q, List.length_append, List.length_append]; show _ + 1 + _ ≤ 9; omega
  rintro acc C ⟨ts, rfl, hlt, hts, rfl⟩
  rw [rngD_len] at hlt
  refine ⟨fun j acc C => ∃ us : List Tx, acc = us.map D.str ∧ us.length = j ∧ (∀ t ∈ us, t.length ≤ 9) ∧ C = [pu p4, .lst (ws.map D.str), .dead], ⟨[], rfl, rfl, fun _ h => (nomatch h), rfl⟩, fun _ _ _ _ => rfl, ?_, ?_⟩
  · rintro j acc C d hd ⟨us, rfl, rfl, hus, rfl⟩
    have hj := (List.getElem?_eq_some_iff.mp hd).1
    rw [List.length_map] at hj
    obtain ⟨t, ht, rfl⟩ := map_get hd
    obtain ⟨_, fg1, fg2⟩ := figs_n (r := m) (by omega) (by omega)
    refine ⟨Nat.lt_of_le_of_lt (Nat.log2_le_self m.natAbs) (by omega), by show 3 + (figs m).length ≤ _; omega, ?_⟩
    obtain ⟨v, hv, lv⟩ : ∃ v : Tx, atI [D.str t, D.str ([104, 97, 116] ++ figs m)] (if decide (t = [104, 97, 115]) = true then 1 else 0) = some (.str v) ∧ v.length ≤ 9 := by
      by_cases e : t = [104, 97, 115]
      · exact ⟨_, by rw [decide_eq_true e]; rfl, by rw [List.length_append]; show 3 + _ ≤ 9; omega⟩
      · exact ⟨_, by rw [decide_eq_false e]; rfl, hts t (List.mem_of_getElem? ht)⟩
    refine ⟨_, hv, ?_⟩
    refine ⟨by rw [List.length_map]; omega, us ++ [v], by rw [List.map_append]; rfl, by rw [List.length_append]; rfl, fun w hw' => ?_, rfl⟩
    rcases List.mem_append.mp hw' with q | q
    · exact hus w q
    · rw [List.mem_singleton] at q; rw [q]; exact lv
  · rintro acc C ⟨us, rfl, hlu, hus, rfl⟩
    rw [List.length_map] at hlu
    exact hq us p4 (by omega) hus (h4.mono (by omega))

def sp__law_way : DSp := fun xs C Q => ∃ (p : Pu) (k : Nat) (ns : List Tx), xs = [.cel 0, .bor (dStrs ns)] ∧ C = [pu p] ∧ PuOk k p ∧ k ≤ 900000 ∧ 1 ≤ ns.length ∧ ns.length ≤ 100 ∧ ∀ (ws : List Tx) p', ws.length ≤ 3 → (∀ t ∈ ws, t ∈ ns) → PuOk (k + 5) p' → Q (.of (.tup (dStrs ws))) [pu p']
theorem ok__law_way {P : Program} {w : World} {K : PySem.W.Frag} {mg : Str → Option Value} (T : Top w K mg) : ∃ fd : FuncData, FunD K "_law_way" "_law_way" (defArgs st__law_way) (defBody st__law_way) (defScope st__law_way) (dd__law_way.dvs K) (dd__law_way.kws K) (He.ga K "_law_way") fd ∧ ∀ base : Heap, FnOk P w K mg base CX0 2 (He.ga K "_law_way") fd ["_law_purse_here", "_law_names_here"] (rawSp K 2 sp__law_way) := by
  obtain ⟨fd, F⟩ := T.f__law_way
  refine ⟨fd, F, fun base => fn_d F sc__law_way (fun cdv A outer s H E hr => ⟨_, _, QSs.nox
 ((qss_one (qs_ret (qe_tupleOf rfl (by rfl) T.n_tuple (qe_lc (own := [("_law_k", 2)]) rfl sc__law_way.nd (qi_range1 rfl T.n_range (qa_cons (qc (mds := [.io, .b]) (cal__law_take_2 (K := K) T) (cal__law_take_2_r (K := K) T) hr (by decide) L2.pass0 rfl rfl (qa_cons (qv 0) (qa_cons qe_int qa_nil))) qa_nil)) (blkOk_by (N := ["_law_purse_here", "_law_names_here", "_law_k"]) (sc := defScope st__law_way) (by decide +kernel)) (fun _ _ _ _ _ => (qg_name (i := 2) sc__law_way.nd rfl (Or.inl rfl))) (gown_name (by decide)) (fun _ _ _ _ _ => qts_nil) (fun _ _ _ _ _ => (qe_ix (xq_list rfl) (qv 1) (qc (mds := [.io, .b]) (cal__law_take_2 (K := K) T) (cal__law_take_2_r (K := K) T) hr (by decide) L2.pass0 rfl rfl (qa_cons (qv 0) (qa_cons (qe_callB (cq_len_seq rfl) (by rfl) T.n_len (by decide +kernel) (qa_cons (qv 1) qa_nil)) qa_nil))) (fun _ _ => rfl)))))))), fun xs C Q hlen h => ?_⟩)⟩
  obtain ⟨p, k, ns, rfl, rfl, hp, hk, m0, m1, hq⟩ := h
  refine ⟨p, k, 4, rfl, rfl, hp, by omega, by decide, by decide, fun n p1 n0 n1 h1 => ?_⟩
  refine ⟨⟨by omega, by omega⟩, ?_⟩
  refine ⟨fun j acc C => ∃ (ws : List Tx) (p' : Pu), acc = ws.map D.str ∧ ws.length = j ∧ (∀ t ∈ ws, t ∈ ns) ∧ PuOk (k + 1 + j) p' ∧ C = [pu p'], ⟨[], p1, rfl, rfl, fun _ h => (nomatch h), h1, rfl⟩, fun _ _ _ _ => True.intro, ?_, ?_⟩
  · rintro j acc C d hd ⟨ws, p2, rfl, rfl, hw, h2, rfl⟩
    have hj := (List.getElem?_eq_some_iff.mp hd).1
    rw [rngD_len] at hj
    refine ⟨p2, _, _, rfl, rfl, h2, by omega, by rw [List.length_map]; omega, by rw [List.length_map]; omega, fun r p3 r0 r1 h3 => ?_⟩
    rw [List.length_map] at r1
    obtain ⟨t, e1, e2, _⟩ := at_some (l := ns) r0 r1
    refine ⟨_, atI_map (f := D.str) e1, ?_⟩
    refine ⟨by rw [List.length_map]; omega, ws ++ [t], p3, by rw [List.map_append]; rfl, by rw [List.length_append]; rfl, fun w hw' => ?_, h3, rfl⟩
    rcases List.mem_append.mp hw' with q | q
    · exact hw w q
    · rw [List.mem_singleton] at q; rw [q]; exact e2
  · rintro acc C ⟨ws, p2, rfl, hl, hw, h2, rfl⟩
    rw [rngD_len] at hl h2
    exact hq ws p2 (by omega) hw (h2.mono (by omega))

def sp__law_led : DSp := fun xs C Q => ∃ (p : PC) (ws : List Tx), xs = [.of (dPc p), .of (.tup (dStrs ws))] ∧ C = [] ∧ ws.length < 64 ∧ p.signs.length ≤ 100000 ∧ ∀ paint : List Tx, Q (.of (dPc ⟨p.text, p.signs.map (fun s => ⟨s.page, s.row, s.col, ws⟩), paint⟩)) []
theorem mkr_Piece_init_3 {P : Program} {w : World} {K : PySem.W.Frag} {mg : Str → Option Value} {base : Heap} (T : Top w K mg) : Maker P w K mg base CX0 1 "Piece" (recSp K "Piece" ["text", "signs", "paint"]) [] := by
  obtain ⟨fd, F, S⟩ := ok_Piece_init (P := P) T
  obtain ⟨ds, hV, hB⟩ := F.binds1 (ps := ["self", "text", "signs", "paint"]) 4 1 (fun z => nomatch z) rfl (fun _ _ _ _ _ _ _ us its h1 h2 => match us, its, h1, h2 with | [_, _, _, _], [_], _, _ => ⟨_, rfl, rfl⟩)
  exact ⟨_, fd, _, ds, T.mk_Piece, S base, T.g_Piece, hB, hV⟩
theorem mkr_Piece_init_3_r {w : World} {K : PySem.W.Frag} {mg : Str → Option Value} (T : Top w K mg) : ∀ W, RepVs K W [] ([] : List DV) := fun W => .nil
theorem ok__law_led {P : Program} {w : World} {K : PySem.W.Frag} {mg : Str → Option Value} (T : Top w K mg) : ∃ fd : FuncData, FunD K "_law_led" "_law_led" (defArgs st__law_led) (defBody st__law_led) (defScope st__law_led) (dd__law_led.dvs K) (dd__law_led.kws K) (He.ga K "_law_led") fd ∧ ∀ base : Heap, FnOk P w K mg base CX0 3 (He.ga K "_law_led") fd ["_law_piece", "_law_way_here"] (rawSp K 2 sp__law_led) := by
  obtain ⟨fd, F⟩ := T.f__law_led
  refine ⟨fd, F, fun base => fn_d F sc__law_led (fun cdv A outer s H E hr => ⟨_, _, QSs.nox
 ((qss_cons (qs_set (i := 2) sc__law_led.nd rfl (Or.inl rfl) (qe_tupleOf rfl (by rfl) T.n_tuple (qe_lc (own := [("_law_sign", 3)]) rfl sc__law_led.nd (qi_tup rfl (qe_fld rfl T.cl_Piece T.na_Piece_signs (qv 0) rfl)) (blkOk_by (N := ["_law_piece", "_law_way_here", "_law_signs", "_law_sign"]) (sc := defScope st__law_led) (by decide +kernel)) (fun _ _ _ _ _ => (qg_name (i := 3) sc__law_led.nd rfl (Or.inl rfl))) (gown_name (by decide)) (fun _ _ _ _ _ => qts_nil) (fun _ _ _ _ _ => (qe_op (oq_catA rfl) (qe_slice (lq_tup rfl) (qv 3) qo_none (qo_some qe_int)) (qe_tup (qa_cons (qv 1) qa_nil)))))))
 (qss_one (qs_ret (qmk (mkr_Piece_init_3 (K := K) T) (mkr_Piece_init_3_r (K := K) T) hr (by decide) L2.pass0 rfl rfl (qa_cons (qe_fld rfl T.cl_Piece T.na_Piece_text (qv 0) rfl) (qa_cons (qv 2) (qa_cons (qe_tupleOf rfl (by rfl) T.n_tuple (qe_sortSet rfl rfl (by rfl) T.n_sorted (by rfl) T.n_set (qv 1))) qa_nil)))))))), fun xs C Q hlen h => ?_⟩)⟩
  obtain ⟨p, ws, rfl, rfl, hw, hs, hq⟩ := h
  refine ⟨rfl, _, rfl, ?_⟩
  refine ⟨fun j acc C => acc = (p.signs.take j).map (fun s => dSg ⟨s.page, s.row, s.col, ws⟩) ∧ C = [], ⟨rfl, rfl⟩, fun _ _ _ _ => True.intro, ?_, ?_⟩
  · rintro j acc C d hd ⟨rfl, rfl⟩
    obtain ⟨s, hs1, rfl⟩ := map_get hd
    have hj := (List.getElem?_eq_some_iff.mp hs1).1
    refine ⟨by show 3 + 1 ≤ _; decide, by rw [List.length_map, List.length_take]; omega, ?_, rfl⟩
    rw [take_more hs1, List.map_append]; rfl
  · rintro acc C ⟨rfl, rfl⟩
    rw [List.length_map, List.take_length]
    refine ⟨rfl, _, rfl, ws, rfl, hw, fun ys nd mem so => ?_⟩
    rw [show (p.signs.map fun s => dSg ⟨s.page, s.row, s.col, ws⟩) = (p.signs.map fun s => (⟨s.page, s.row, s.col, ws⟩ : SG)).map dSg by rw [List.map_map]; rfl]
    exact hq ys

theorem mem_joinL {s : Tx} {c : Nat} : ∀ {ws : List Tx}, c ∈ TL.joinL s ws → c ∈ s ∨ ∃ w ∈ ws, c ∈ w
  | [], h => (nomatch h)
  | [x], h => .inr ⟨x, List.mem_singleton_self x, h⟩
  | x :: y :: r, h => by
    have h' : c ∈ x ++ (s ++ TL.joinL s (y :: r)) := h
    rcases List.mem_append.mp h' with q | q
    · exact .inr ⟨x, List.mem_cons_self, q⟩
    · rcases List.mem_append.mp q with q | q
      · exact .inl q
      · rcases mem_joinL q with q | ⟨w, h1, h2⟩
        · exact .inl q
        · exact .inr ⟨w, List.mem_cons_of_mem _ h1, h2⟩
theorem joinL_len {s : Tx} {m : Nat} : ∀ {ws : List Tx}, (∀ w ∈ ws, w.length ≤ m) → (TL.joinL s ws).length ≤ ws.length * (m + s.length) ∧ (ws.map List.length).sum ≤ ws.length * m
  | [], _ => ⟨Nat.zero_le _, Nat.zero_le _⟩
  | [x], h => by
    have := h x List.mem_cons_self
    refine ⟨?_, ?_⟩
    · show x.length ≤ 1 * _; omega
    · show x.length + 0 ≤ 1 * _; omega
  | x :: y :: r, h => by
    have h1 := h x List.mem_cons_self
    obtain ⟨h2, h3⟩ := joinL_len (s := s) (ws := y :: r) fun w hw => h w (List.mem_cons_of_mem _ hw)
    refine ⟨?_, ?_⟩
    · show (x ++ (s ++ TL.joinL s (y :: r))).length ≤ ((y :: r).length + 1) * _
      rw [List.length_append, List.length_append, Nat.succ_mul]; omega
    · show x.length + ((y :: r).map List.length).sum ≤ ((y :: r).length + 1) * _
      rw [Nat.succ_mul]; omega
def LP : Tx := cl ("abcxyz019 +-*/()$~=<>!&|,;?#$" : Str)
theorem lLP : LP.length = 29 ∧ 34 ∉ LP := by decide +kernel
def sp__law_page : DSp := fun xs C Q => ∃ (p : Pu) (k : Nat), xs = [.cel 0] ∧ C = [pu p] ∧ PuOk k p ∧ k ≤ 900000 ∧ ∀ (l : Tx) p', l.length ≤ 100 → 34 ∉ l → PuOk (k + 50) p' → Q (.of (.str l)) [pu p']
theorem ok__law_page {P : Program} {w : World} {K : PySem.W.Frag} {mg : Str → Option Value} (T : Top w K mg) : ∃ fd : FuncData, FunD K "_law_page" "_law_page" (defArgs st__law_page) (defBody st__law_page) (defScope st__law_page) (dd__law_page.dvs K) (dd__law_page.kws K) (He.ga K "_law_page") fd ∧ ∀ base : Heap, FnOk P w K mg base CX0 2 (He.ga K "_law_page") fd ["_law_purse_here"] (rawSp K 1 sp__law_page) := by
  obtain ⟨fd, F⟩ := T.f__law_page
  refine ⟨fd, F, fun base => fn_d F sc__law_page (fun cdv A outer s H E hr => ⟨_, _, QSs.nox
 ((qss_cons (qs_set (i := 1) sc__law_page.nd rfl (Or.inr rfl) qe_str)
 (qss_cons (qs_set (i := 2) sc__law_page.nd rfl (Or.inl rfl) (qe_lst qa_nil))
 (qss_cons (qs_for PassesOwn.never rfl (qi_range1 rfl T.n_range (qa_cons (qe_op oq_add qe_int (qc (mds := [.io, .b]) (cal__law_take_2 (K := K) T) (cal__law_take_2_r (K := K) T) hr (by decide) L2.pass0 rfl rfl (qa_cons (qv 0) (qa_cons qe_int qa_nil)))) qa_nil)) (qg_name (i := 3) sc__law_page.nd rfl (Or.inl rfl))
 (qss_one (qs_expr (qe_bmL rfl PySem.F.slot_list_append PySem.F.type_list_append mt_append refM_append (qv 2) (qa_cons (qe_join rfl (qe_strc (l := []) (by decide +kernel)) (qe_lc (own := [("_law_at", 4)]) rfl sc__law_page.nd (qi_range1 rfl T.n_range (qa_cons (qc (mds := [.io, .b]) (cal__law_take_2 (K := K) T) (cal__law_take_2_r (K := K) T) hr (by decide) L2.pass0 rfl rfl (qa_cons (qv 0) (qa_cons qe_int qa_nil))) qa_nil)) (blkOk_by (N := ["_law_purse_here", "_law_signs", "_law_rows", "_law_k", "_law_at"]) (sc := defScope st__law_page) (by decide +kernel)) (fun _ _ _ _ _ => (qg_name (i := 4) sc__law_page.nd rfl (Or.inl rfl))) (gown_name (by decide)) (fun _ _ _ _ _ => qts_nil) (fun _ _ _ _ _ => (qe_ix xq_str (qv 1) (qc (mds := [.io, .b]) (cal__law_take_2 (K := K) T) (cal__law_take_2_r (K := K) T) hr (by decide) L2.pass0 rfl rfl (qa_cons (qv 0) (qa_cons (qe_callB cq_len_str (by rfl) T.n_len (by decide +kernel) (qa_cons (qv 1) qa_nil)) qa_nil))) (fun _ _ => rfl))))) qa_nil)))))
 (qss_one (qs_ret (qe_join rfl (qe_strc (l := [10]) (by decide +kernel)) (qv 2)))))))), fun xs C Q hlen h => ?_⟩)⟩
  obtain ⟨p, k, rfl, rfl, hp, hk, hq⟩ := h
  refine ⟨p, k, 4, rfl, rfl, hp, by omega, by decide, by decide, fun n p1 n0 n1 h1 => ?_⟩
  refine ⟨⟨by omega, by omega⟩, ?_⟩
  refine ⟨fun i S C => ∃ (rows : List Tx) (p2 : Pu) (o3 o4 : Option DV), S = [some (.cel 0), some (.of (.str LP)), some (.cel 1), o3, o4] ∧ rows.length = i ∧ (∀ w ∈ rows, w.length ≤ 9 ∧ 34 ∉ w) ∧ PuOk (k + 1 + 11 * i) p2 ∧ C = [pu p2, .lst (dStrs rows)], ⟨[], p1, none, none, rfl, rfl, fun _ h => (nomatch h), h1, rfl⟩, fun _ _ _ _ => True.intro, ?_, ?_⟩
  · rintro i d S C hd ⟨rows, p2, o3, o4, rfl, rfl, hr, h2, rfl⟩
    obtain ⟨hi, rfl⟩ := rngD_get hd
    refine ⟨p2, _, 10, rfl, rfl, h2, by omega, by decide, by decide, fun m p3 m0 m1 h3 => ?_⟩
    refine ⟨⟨by omega, by omega⟩, ?_⟩
    refine ⟨fun j acc C => ∃ (ws : List Tx) (p' : Pu), acc = ws.map D.str ∧ ws.length = j ∧ (∀ w ∈ ws, ∃ c, w = [c] ∧ c ∈ LP) ∧ PuOk (k + 1 + 11 * rows.length + 1 + j) p' ∧ C = [pu p', .lst (dStrs rows)], ⟨[], p3, rfl, rfl, fun _ h => (nomatch h), h3, rfl⟩, fun _ _ _ _ => True.intro, ?_, ?_⟩
    · rintro j acc C d hd ⟨ws, p4, rfl, rfl, hw, h4, rfl⟩
      obtain ⟨hj, rfl⟩ := rngD_get hd
      refine ⟨by show LP.length ≤ _; rw [lLP.1]; decide, p4, _, _, rfl, rfl, h4, by omega, by show (0 : Int) < ((LP.length : Nat) : Int); rw [lLP.1]; decide, by show ((LP.length : Nat) : Int) ≤ _; rw [lLP.1]; decide, fun r p5 r0 r1 h5 => ?_⟩
      obtain ⟨c, e1, e2, _⟩ := at_some (l := LP) r0 r1
      refine ⟨by show LP.length ≤ _; rw [lLP.1]; decide, c, e1, ?_⟩
      refine ⟨by rw [List.length_map]; omega, ws ++ [[c]], p5, by rw [List.map_append]; rfl, by rw [List.length_append]; rfl, fun w hw' => ?_, h5, rfl⟩
      rcases List.mem_append.mp hw' with q | q
      · exact hw w q
      · rw [List.mem_singleton] at q; exact ⟨c, q, e2⟩
    rintro acc C ⟨ws, p4, rfl, hl, hw, h4, rfl⟩
    rw [rngD_len] at hl h4
    obtain ⟨f0, f1, f2⟩ := flat_onesIn (A := LP) hw
    refine ⟨ws, allS_map ws, by rw [f0]; show ws.length + ws.length * 0 ≤ _; omega, ?_⟩
    rw [show joinT [] ws = ws.flatten from joinL_nil ws]
    generalize ws.flatten = base at *
    refine ⟨by rw [List.length_map]; omega, rows ++ [base], p4, _, _, rfl, by rw [List.length_append]; rfl, fun w hw' => ?_, h4.mono (by omega), ?_⟩
    · rcases List.mem_append.mp hw' with q | q
      · exact hr w q
      · rw [List.mem_singleton] at q; rw [q]; exact ⟨by omega, fun z => lLP.2 (f2 _ z)⟩
    · show [pu p4, .lst (dStrs rows ++ [.str base])] = _
      rw [show dStrs (rows ++ [base]) = dStrs rows ++ [.str base] from List.map_append]
  · rintro S C ⟨rows, p2, o3, o4, rfl, hl, hr, h2, rfl⟩
    rw [rngD_len] at hl h2
    obtain ⟨j1, j2⟩ := joinL_len (s := [10]) (m := 9) (ws := rows) fun w hw => (hr w hw).1
    have j3 : rows.length * (9 + ([10] : Tx).length) ≤ 5 * 10 := Nat.mul_le_mul (by omega) (by decide)
    have j4 : rows.length * 9 ≤ 5 * 9 := Nat.mul_le_mul (by omega) (by decide)
    refine ⟨rows, allS_map rows, by show _ + rows.length * 1 ≤ _; omega, ?_⟩
    refine hq _ p2 (by show (TL.joinL [10] rows).length ≤ _; omega) (fun z => ?_) (h2.mono (by omega))
    rcases mem_joinL z with z | ⟨w, h1, h2⟩
    · exact absurd z (by decide)
    · exact (hr w h1).2 h2


end Z

namespace Z
open PySem PySem.Spec PyProof.Rows L2
/-! ### a piece of a row, or a text made of some -/
theorem join_splT (l s : Tx) : TL.joinL s (splT l s) = l := by
  have h := congrArg TL.tl (PySem.StrLaws.join_split (txtOf l) (txtOf s))
  rw [TL.tl_join] at h
  exact h
theorem joinL_mem {s : Tx} {c : Nat} : ∀ {ws : List Tx} {w : Tx}, w ∈ ws → c ∈ w → c ∈ TL.joinL s ws
  | [x], w, h, hc => by rw [List.mem_singleton.mp h] at hc; exact hc
  | x :: y :: r, w, h, hc => by
    show c ∈ x ++ (s ++ TL.joinL s (y :: r))
    rcases List.mem_cons.mp h with rfl | h
    · exact List.mem_append_left _ hc
    · exact List.mem_append_right _ (List.mem_append_right _ (joinL_mem h hc))
theorem joinL_le {s : Tx} : ∀ {ws : List Tx} {w : Tx}, w ∈ ws → w.length ≤ (TL.joinL s ws).length
  | [x], w, h => by rw [List.mem_singleton.mp h]; exact Nat.le_refl _
  | x :: y :: r, w, h => by
    show _ ≤ (x ++ (s ++ TL.joinL s (y :: r))).length
    rw [List.length_append, List.length_append]
    rcases List.mem_cons.mp h with rfl | h
    · omega
    · have := joinL_le (s := s) h; omega
theorem splT_row {l s w : Tx} (h : w ∈ splT l s) : w.length ≤ l.length ∧ ∀ c ∈ w, c ∈ l := by
  have e := join_splT l s
  exact ⟨by have := joinL_le (s := s) h; rw [e] at this; exact this, fun c hc => by have := joinL_mem (s := s) h hc; rw [e] at this; exact this⟩
def lvs (m r : Tx) : Kvs := [([109], .str m), ([114], .str r)]
def sp__law_own_piece : DSp := fun xs C Q => ∃ (p : Pu) (k : Nat) (m r : Tx) (ns : List Tx), xs = [.cel 0, .cel 1, .bor (dStrs ns)] ∧ C = [pu p, .dct (lvs m r)] ∧ PuOk k p ∧ k ≤ 800000 ∧ 1 ≤ ns.length ∧ ns.length ≤ 100 ∧ (m.length ≤ 100 ∧ 34 ∉ m) ∧ (r.length ≤ 100 ∧ 34 ∉ r) ∧ ∀ (q : PC) p', (q.signs.length ≤ 5000 ∧ ∀ s ∈ q.signs, s.page.length ≤ 1) → PuOk (k + 20) p' → Q (.of (dPc q)) [pu p', .dct (lvs m r)]
theorem cal_pieces_of_1_page_number {P : Program} {w : World} {K : PySem.W.Frag} {mg : Str → Option Value} {base : Heap} (T : Top w K mg) : CalleeK P w K mg base CX0 3 "pieces_of" (rawSp K 3 sp_pieces_of) 1 ["page", "number"] (fun vs zs => vs ++ (pick 0 zs ++ (pick 1 zs ++ []))) := by
  obtain ⟨fd, F, S⟩ := ok_pieces_of (P := P) T
  obtain ⟨mv, hB⟩ := F.kbinds0 (ps := ["row", "page", "number"]) 1 ["page", "number"] [] (fun us mv ws => us ++ (pick 0 ws ++ (pick 1 ws ++ []))) (fun z => nomatch z) (by intro q hq; revert q hq; simp [dd_pieces_of, He.DefD.kws, He.Dv.v]) (fun r1 rm rw => Vals.append r1 (Vals.append (vpick 0 rw) (Vals.append (vpick 1 rw) (.nil)))) (fun _ _ _ _ _ _ us mv ws h1 h2 h3 => match us, mv, ws, h1, h2, h3 with | [_], [], [_, _], _, _, _ => rfl)
  exact ⟨fd, _, _, S base, T.g_pieces_of, F.kp, hB⟩
theorem cal_pieces_of_1_page_number_r {w : World} {K : PySem.W.Frag} {mg : Str → Option Value} (T : Top w K mg) : GRel K 1 (["page", "number"] : List Str).length 3 (fun vs zs => vs ++ (pick 0 zs ++ (pick 1 zs ++ []))) (fun xs ys => xs ++ (pick 0 ys ++ (pick 1 ys ++ []))) := by
  intro W vs zs xs ys r1 r2 h1 h2
  refine ⟨RepVs.app r1 (RepVs.app (RepVs.pick 0 r2) (RepVs.app (RepVs.pick 1 r2) .nil)), ?_⟩
  match vs, zs, h1, h2 with
  | [v0], [z0, z1], _, _ => rfl
theorem cal__law_way_2 {P : Program} {w : World} {K : PySem.W.Frag} {mg : Str → Option Value} {base : Heap} (T : Top w K mg) : Callee P w K mg base CX0 2 "_law_way" (rawSp K 2 sp__law_way) [] := by
  obtain ⟨fd, F, S⟩ := ok__law_way (P := P) T
  have hB : Binds K fd ["_law_purse_here", "_law_names_here"] [] := F.bindsN (fun _ _ _ _ _ _ us hl => match us, hl with | [_, _], _ => rfl)
  exact ⟨fd, _, [], S base, T.g__law_way, F.kp, hB, .nil⟩
theorem cal__law_way_2_r {w : World} {K : PySem.W.Frag} {mg : Str → Option Value} (T : Top w K mg) : ∀ W, RepVs K W [] ([] : List DV) := fun W => .nil
theorem cal__law_led_2 {P : Program} {w : World} {K : PySem.W.Frag} {mg : Str → Option Value} {base : Heap} (T : Top w K mg) : Callee P w K mg base CX0 3 "_law_led" (rawSp K 2 sp__law_led) [] := by
  obtain ⟨fd, F, S⟩ := ok__law_led (P := P) T
  have hB : Binds K fd ["_law_piece", "_law_way_here"] [] := F.bindsN (fun _ _ _ _ _ _ us hl => match us, hl with | [_, _], _ => rfl)
  exact ⟨fd, _, [], S base, T.g__law_led, F.kp, hB, .nil⟩
theorem cal__law_led_2_r {w : World} {K : PySem.W.Frag} {mg : Str → Option Value} (T : Top w K mg) : ∀ W, RepVs K W [] ([] : List DV) := fun W => .nil
theorem ok__law_own_piece {P : Program} {w : World} {K : PySem.W.Frag} {mg : Str → Option Value} (T : Top w K mg) : ∃ fd : FuncData, FunD K "_law_own_piece" "_law_own_piece" (defArgs st__law_own_piece) (defBody st__law_own_piece) (defScope st__law_own_piece) (dd__law_own_piece.dvs K) (dd__law_own_piece.kws K) (He.ga K "_law_own_piece") fd ∧ ∀ base : Heap, FnOk P w K mg base CX0 4 (He.ga K "_law_own_piece") fd ["_law_purse_here", "_law_leaves", "_law_names_here"] (rawSp K 3 sp__law_own_piece) := by
  obtain ⟨fd, F⟩ := T.f__law_own_piece
  refine ⟨fd, F, fun base => fn_d F sc__law_own_piece (fun cdv A outer s H E hr => ⟨_, _, QSs.nox
 ((qss_cons (qs_set (i := 3) sc__law_own_piece.nd rfl (Or.inl rfl) (qe_ix (xq_list rfl) (qe_callB (cq_sortedD rfl) (by rfl) T.n_sorted (by decide +kernel) (qa_cons (qv 1) qa_nil)) (qc (mds := [.io, .b]) (cal__law_take_2 (K := K) T) (cal__law_take_2_r (K := K) T) hr (by decide) L2.pass0 rfl rfl (qa_cons (qv 0) (qa_cons (qe_callB cq_lenB (by rfl) T.n_len (by decide +kernel) (qa_cons (qv 1) qa_nil)) qa_nil))) (fun _ _ => rfl)))
 (qss_cons (qs_setF (i := 4) sc__law_own_piece.nd rfl (Or.inl rfl) (qe_split rfl (qe_dget hr.units (qv 1) (qv 3) (fun _ _ => rfl)) (qa_cons (qe_strc (l := [10]) (by decide +kernel)) qa_nil)))
 (qss_cons (qs_set (i := 5) sc__law_own_piece.nd rfl (Or.inl rfl) (qc (mds := [.io, .b]) (cal__law_take_2 (K := K) T) (cal__law_take_2_r (K := K) T) hr (by decide) L2.pass0 rfl rfl (qa_cons (qv 0) (qa_cons (qe_callB (cq_len_seq rfl) (by rfl) T.n_len (by decide +kernel) (qa_cons (qv 4) qa_nil)) qa_nil))))
 (qss_cons (qs_setF (i := 6) sc__law_own_piece.nd rfl (Or.inl rfl) (qck (mds := [.b, .b, .b]) (cal_pieces_of_1_page_number (K := K) T) (cal_pieces_of_1_page_number_r (K := K) T) hr (by decide) L2.pass0 rfl rfl (qa_cons (qe_ix (xq_list rfl) (qv 4) (qv 5) (fun _ _ => rfl)) qa_nil) (qk_cons (qv 3) (qk_cons (qv 5) qk_nil))))
 (qss_cons (qs_if (qt_cmpR (oq_eqE rfl hr.units) (qv 6) (qe_lst qa_nil) (nomark _))
 (qss_one (qs_ret (qmk (mkr_Piece_init_3 (K := K) T) (mkr_Piece_init_3_r (K := K) T) hr (by decide) L2.pass0 rfl rfl (qa_cons (qe_strc (l := [113]) (by decide +kernel)) (qa_cons (qe_tup (qa_cons (qe_tup (qa_cons (qe_strc (l := [114]) (by decide +kernel)) (qa_cons qe_int (qa_cons qe_int (qa_cons (qc (mds := [.io, .b]) (cal__law_way_2 (K := K) T) (cal__law_way_2_r (K := K) T) hr (by decide) L2.pass0 rfl rfl (qa_cons (qv 0) (qa_cons (qv 2) qa_nil))) qa_nil))))) qa_nil)) (qa_cons (qe_tup qa_nil) qa_nil))))))
 qss_nil)
 (qss_cons (qs_set (i := 7) sc__law_own_piece.nd rfl (Or.inl rfl) (qc (mds := [.io, .b]) (cal__law_take_2 (K := K) T) (cal__law_take_2_r (K := K) T) hr (by decide) L2.pass0 rfl rfl (qa_cons (qv 0) (qa_cons (qe_callB (cq_len_seq rfl) (by rfl) T.n_len (by decide +kernel) (qa_cons (qv 6) qa_nil)) qa_nil))))
 (qss_cons (qs_setLc (i := 9) (own := [("_law_piece", 8)]) rfl sc__law_own_piece.nd rfl rfl (sw_true rfl rfl rfl (by decide +kernel)) (qi_list rfl (qv 6)) (blkOk_by (N := ["_law_purse_here", "_law_leaves", "_law_names_here", "_law_leaf", "_law_rows", "_law_line", "_law_found", "_law_at", "_law_piece", "_law_marks", "_law_own", "_law_text", "_law_signs"]) (sc := defScope st__law_own_piece) (by decide +kernel)) (fun _ _ _ _ _ => (qg_name (i := 8) sc__law_own_piece.nd rfl (Or.inl rfl))) (gown_name (by decide)) (fun _ _ _ _ _ => (qts_one (qt_cmpR oq_eq (qe_fld rfl T.cl_Piece T.na_Piece_text (qv 8) rfl) (qe_strc (l := [36]) (by decide +kernel)) (nomark _)))) (fun _ _ _ _ _ => (qv 8)) refG_nameF)
 (qss_cons (qs_if (QW.qt (qw_or (qt_cmpR (oq_eqE rfl hr.units) (qv 9) (qe_lst qa_nil) (nomark _)) (qw_or1 (qt_cmpR oq_eq (qc (mds := [.io, .b]) (cal__law_take_2 (K := K) T) (cal__law_take_2_r (K := K) T) hr (by decide) L2.pass0 rfl rfl (qa_cons (qv 0) (qa_cons qe_int qa_nil))) qe_int (nomark _)))))
 (qss_one (qs_ret (qc (mds := [.b, .b]) (cal__law_led_2 (K := K) T) (cal__law_led_2_r (K := K) T) hr (by decide) L2.pass0 rfl rfl (qa_cons (qe_ix (xq_list rfl) (qv 6) (qv 7) (fun _ _ => rfl)) (qa_cons (qc (mds := [.io, .b]) (cal__law_way_2 (K := K) T) (cal__law_way_2_r (K := K) T) hr (by decide) L2.pass0 rfl rfl (qa_cons (qv 0) (qa_cons (qv 2) qa_nil))) qa_nil)))))
 qss_nil)
 (qss_cons (qs_set (i := 10) sc__law_own_piece.nd rfl (Or.inl rfl) (qe_fld rfl T.cl_Piece T.na_Piece_signs (qe_ix (xq_list rfl) (qv 9) qe_int (fun _ _ => rfl)) rfl))
 (qss_cons (qs_par (i := 11) (j := 12) rfl sc__law_own_piece.nd rfl rfl (by decide) rfl rfl (qa_cons (qe_strc (l := [34]) (by decide +kernel)) (qa_cons (qv 10) qa_nil)) (by rfl))
 (qss_cons (qs_for PassesOwn.never rfl (qi_list rfl (qe_slice (lq_list rfl) (qv 6) (qo_some (qv 7)) (qo_some (qe_op oq_add (qv 7) (qc (mds := [.io, .b]) (cal__law_take_2 (K := K) T) (cal__law_take_2_r (K := K) T) hr (by decide) L2.pass0 rfl rfl (qa_cons (qv 0) (qa_cons qe_int qa_nil))))))) (qg_name (i := 8) sc__law_own_piece.nd rfl (Or.inl rfl))
 (qss_one (qs_par (i := 11) (j := 12) rfl sc__law_own_piece.nd rfl rfl (by decide) rfl rfl (qa_cons (qe_op oq_add_str (qe_op oq_add_str (qv 11) (qe_fld rfl T.cl_Piece T.na_Piece_text (qv 8) rfl)) (qe_strc (l := [32]) (by decide +kernel))) (qa_cons (qe_op (oq_catA rfl) (qe_op (oq_catA rfl) (qv 12) (qe_fld rfl T.cl_Piece T.na_Piece_signs (qv 8) rfl)) (qv 10)) qa_nil)) (by rfl))))
 (qss_one (qs_ret (qc (mds := [.b, .b]) (cal__law_led_2 (K := K) T) (cal__law_led_2_r (K := K) T) hr (by decide) L2.pass0 rfl rfl (qa_cons (qmk (mkr_Piece_init_2 (K := K) T) (mkr_Piece_init_2_r (K := K) T) hr (by decide) L2.pass0 rfl rfl (qa_cons (qe_op oq_add_str (qv 11) (qe_strc (l := [34]) (by decide +kernel))) (qa_cons (qe_op (oq_catA rfl) (qv 12) (qv 10)) qa_nil))) (qa_cons (qc (mds := [.io, .b]) (cal__law_way_2 (K := K) T) (cal__law_way_2_r (K := K) T) hr (by decide) L2.pass0 rfl rfl (qa_cons (qv 0) (qa_cons (qv 2) qa_nil))) qa_nil))))))))))))))))), fun xs C Q hlen h => ?_⟩)⟩
  obtain ⟨p, k, m, r, ns, rfl, rfl, hp, hk, n0, n1, hm, hr, hq⟩ := h
  refine ⟨by show 2 < 64; decide, fun ys hy hs => ?_⟩
  have ly : ys.length = 2 := hy.length_eq
  refine ⟨p, k, 2, rfl, rfl, hp, by omega, by decide, by decide, fun a p1 a0 a1 h1 => ?_⟩
  obtain ⟨leaf, e1, e2, _⟩ := at_some (l := ys) a0 (by omega)
  refine ⟨.str leaf, atI_map (f := D.str) e1, ?_⟩
  obtain ⟨pg, hv, pl, pq⟩ : ∃ pg : Tx, valT (lvs m r) leaf = some (.str pg) ∧ pg.length ≤ 100 ∧ 34 ∉ pg := by
    have h2 : leaf ∈ ([[109], [114]] : List Tx) := hy.mem_iff.mp e2
    rcases List.mem_cons.mp h2 with rfl | h2
    · exact ⟨m, rfl, hm⟩
    · rw [List.mem_singleton.mp h2]; exact ⟨r, rfl, hr⟩
  refine ⟨.str pg, hv, by decide, by show pg.length + 2 ≤ _; omega, ?_⟩
  have s1 := splT_pos pg [10]
  have s2 := splT_le pg [10]
  have s3 := fun w (h : w ∈ splT pg [10]) => splT_row h
  generalize splT pg [10] = rows at *
  refine ⟨p1, _, _, rfl, rfl, h1, by omega, by rw [List.length_map]; omega, by rw [List.length_map]; omega, fun ln p2 l0 l1 h2 => ?_⟩
  rw [List.length_map] at l1
  obtain ⟨row, e3, e4, _⟩ := at_some (l := rows) l0 l1
  refine ⟨.str row, atI_map (f := D.str) e3, ?_⟩
  obtain ⟨rl, rm⟩ := s3 row e4
  obtain ⟨t, ht⟩ := lex_ok (l := row) (by rw [List.count_eq_zero.mpr fun z => pq (rm _ z)]) 0
  obtain ⟨t1, t2⟩ := lex_len ht
  refine ⟨row, leaf, ln, t, rfl, rfl, by omega, ht, rfl, ?_⟩
  have lf : leaf.length ≤ 1 := by
    have h2 : leaf ∈ ([[109], [114]] : List Tx) := hy.mem_iff.mp e2
    rcases List.mem_cons.mp h2 with rfl | h2
    · decide
    · rw [List.mem_singleton.mp h2]; decide
  have lps : ∀ q ∈ t.map (pcO leaf ln), q.signs.length ≤ 100 ∧ q.text.length ≤ 100 ∧ ∀ s ∈ q.signs, s.page.length ≤ 1 := by
    intro q hq
    obtain ⟨x, hx, rfl⟩ := List.mem_map.mp hq
    have := (t2 x hx).2
    refine ⟨?_, ?_⟩
    · show ((List.range x.1.length).map _).length ≤ 100
      rw [List.length_map, List.length_range]; omega
    · refine ⟨by show x.1.length ≤ 100; omega, fun s hs => ?_⟩
      obtain ⟨j, _, rfl⟩ := List.mem_map.mp hs
      exact lf
  have lt : (t.map (pcO leaf ln)).length ≤ 100 := by rw [List.length_map]; omega
  generalize t.map (pcO leaf ln) = ps at *
  refine iteB (fun c => ?_) (fun c => ?_)
  · refine ⟨p2, _, ns, rfl, rfl, h2, by omega, n0, n1, fun ws p3 w1 w2 h3 => ?_⟩
    exact hq ⟨[113], [⟨[114], 0, 0, ws⟩], []⟩ p3 ⟨by show 1 ≤ 5000; decide, fun s hs => by rw [List.mem_singleton.mp hs]; exact Nat.le_refl 1⟩ (h3.mono (by omega))
  have l0 : 0 < ps.length := by
    cases ps with
    | nil => cases c
    | cons x r => exact Nat.succ_pos _
  refine ⟨p2, _, _, rfl, rfl, h2, by omega, by rw [List.length_map]; omega, by rw [List.length_map]; omega, fun at_ p3 q0 q1 h3 => ?_⟩
  rw [List.length_map] at q1
  obtain ⟨pc, e5, e6, _⟩ := at_some (l := ps) q0 q1
  have e5' : atI (dPcs ps) at_ = some (dPc pc) := atI_map (f := dPc) e5
  refine ⟨fun j acc C => ∃ ms : List PC, acc = dPcs ms ∧ (∀ x ∈ ms, x ∈ ps) ∧ ms.length ≤ j ∧ C = [pu p3, .dct (lvs m r), .lst (ys.map D.str), .dead, .dead, .lst []], ⟨[], rfl, fun _ h => (nomatch h), Nat.le_refl _, rfl⟩, fun _ _ _ _ => rfl, ?_, ?_⟩
  · rintro j acc C d hd ⟨ms, rfl, hms, hlm, rfl⟩
    obtain ⟨q, hq1, rfl⟩ := map_get hd
    have hj := (List.getElem?_eq_some_iff.mp hq1).1
    refine ⟨rfl, _, rfl, iteD (fun c => ?_) (fun c => ?_)⟩
    · refine ⟨by rw [List.length_map]; omega, ms ++ [q], by show dPcs ms ++ [dPc q] = (ms ++ [q]).map dPc; rw [List.map_append]; rfl, fun x hx => ?_, by rw [List.length_append]; show _ + 1 ≤ _; omega, rfl⟩
      rcases List.mem_append.mp hx with z | z
      · exact hms x z
      · rw [List.mem_singleton] at z; rw [z]; exact List.mem_of_getElem? hq1
    · exact ⟨ms, rfl, hms, by omega, rfl⟩
  rintro acc C ⟨ms, rfl, hms, hlm, rfl⟩
  refine iteB (fun c2 => ?_) (fun c2 => ?_)
  · refine ⟨_, e5', p3, _, ns, rfl, rfl, h3, by omega, n0, n1, fun ws p4 w1 w2 h4 => ?_⟩
    refine ⟨pc, ws, rfl, rfl, by omega, by have := (lps pc e6).1; omega, fun paint => ?_⟩
    exact hq _ p4 ⟨by show (pc.signs.map _).length ≤ _; rw [List.length_map]; have := (lps pc e6).1; omega, fun s hs => by
      obtain ⟨s0, h0, rfl⟩ := List.mem_map.mp hs
      exact (lps pc e6).2.2 s0 h0⟩ (h4.mono (by omega))
  refine ⟨p3, _, 2, rfl, rfl, h3, by omega, by decide, by decide, fun b p4 b0 b1 h4 => ?_⟩
  refine iteD (fun c3 => ?_) (fun c3 => ?_)
  · refine ⟨_, e5', p4, _, ns, rfl, rfl, h4, by omega, n0, n1, fun ws p5 w1 w2 h5 => ?_⟩
    refine ⟨pc, ws, rfl, rfl, by omega, by have := (lps pc e6).1; omega, fun paint => ?_⟩
    exact hq _ p5 ⟨by show (pc.signs.map _).length ≤ _; rw [List.length_map]; have := (lps pc e6).1; omega, fun s hs => by
      obtain ⟨s0, h0, rfl⟩ := List.mem_map.mp hs
      exact (lps pc e6).2.2 s0 h0⟩ (h5.mono (by omega))
  obtain ⟨x0, ms, rfl⟩ : ∃ x0 ms', ms = x0 :: ms' := by
    cases ms with
    | nil => cases c2
    | cons x r => exact ⟨x, r, rfl⟩
  have lx := lps x0 (hms x0 List.mem_cons_self)
  refine ⟨dPc x0, at_zero, rfl, _, rfl, ?_⟩
  refine ⟨p4, _, 4, rfl, rfl, h4, by omega, by decide, by decide, fun n p5 g0 g1 h5 => ?_⟩
  have lc : (cutD (dPcs ps) (some at_) (some (at_ + n))).length ≤ 3 := by
    obtain ⟨i, rfl⟩ : ∃ i : Nat, at_ = (i : Int) := ⟨at_.toNat, by omega⟩
    obtain ⟨j, rfl⟩ : ∃ j : Nat, n = (j : Int) := ⟨n.toNat, by omega⟩
    rw [show (i : Int) + (j : Int) = ((i + j : Nat) : Int) from rfl, cutD_nat, List.length_take]
    omega
  have lm : ∀ d ∈ cutD (dPcs ps) (some at_) (some (at_ + n)), ∃ q, d = dPc q ∧ q.signs.length ≤ 100 ∧ q.text.length ≤ 100 ∧ ∀ s ∈ q.signs, s.page.length ≤ 1 := by
    intro d hd
    obtain ⟨q, hq1, rfl⟩ := List.mem_map.mp (mem_cutD hd)
    exact ⟨q, rfl, lps q hq1⟩
  refine ⟨fun i S C => ∃ (tx : Tx) (sg : List SG) (o8 : Option DV), S = [some (.cel 0), some (.cel 1), some (.bor (dStrs ns)), some (.of (.str leaf)), some (.of (.lst (rows.map D.str))), some (.of (.int ln)), some (.of (.lst (dPcs ps))), some (.of (.int at_)), o8, some (.of (.lst (dPcs (x0 :: ms)))), some (.of (.tup (x0.signs.map dSg))), some (.of (.str tx)), some (.of (.tup (sg.map dSg)))] ∧ tx.length ≤ 1 + 101 * i ∧ sg.length ≤ 100 + 200 * i ∧ (∀ s ∈ sg, s.page.length ≤ 1) ∧ C = [pu p5, .dct (lvs m r), .lst (ys.map D.str), .dead, .dead, .lst [], .dead, .lst [], .lst (cutD (dPcs ps) (some at_) (some (at_ + n)))], ⟨[34], x0.signs, none, rfl, by decide, lx.1, lx.2.2, rfl⟩, fun i S C h => by obtain ⟨_, _, _, _, _, _, _, rfl⟩ := h; rfl, ?_, ?_⟩
  · rintro i d S C hd ⟨tx, sg, o8, rfl, ht, hsg, hpg, rfl⟩
    have hi := (List.getElem?_eq_some_iff.mp hd).1
    obtain ⟨q, rfl, lq1, lq2, lq3⟩ := lm d (List.mem_of_getElem? hd)
    refine ⟨rfl, _, rfl, by show tx.length + q.text.length ≤ _; omega, by show (tx ++ q.text).length + 1 ≤ _; rw [List.length_append]; omega, rfl, _, rfl, by show (sg.map dSg).length + (q.signs.map dSg).length ≤ _; rw [List.length_map, List.length_map]; omega, by show (sg.map dSg ++ q.signs.map dSg).length + (x0.signs.map dSg).length ≤ _; rw [List.length_append, List.length_map, List.length_map, List.length_map]; have := lx.1; omega, ?_⟩
    refine ⟨tx ++ q.text ++ [32], sg ++ q.signs ++ x0.signs, some (.of (dPc q)), ?_, by rw [List.length_append, List.length_append]; show _ + 1 ≤ _; omega, by rw [List.length_append, List.length_append]; have := lx.1; omega, fun s hs => ?_, rfl⟩
    rotate_left
    · rcases List.mem_append.mp hs with hs | hs
      · rcases List.mem_append.mp hs with hs | hs
        · exact hpg s hs
        · exact lq3 s hs
      · exact lx.2.2 s hs
    show ([some (.cel 0), some (.cel 1), some (.bor (dStrs ns)), some (.of (.str leaf)), some (.of (.lst (rows.map D.str))), some (.of (.int ln)), some (.of (.lst (dPcs ps))), some (.of (.int at_)), some (.of (dPc q)), some (.of (.lst (dPcs (x0 :: ms)))), some (.of (.tup (x0.signs.map dSg))), some (.of (.str (tx ++ q.text ++ [32]))), some (.of (.tup (sg.map dSg ++ q.signs.map dSg ++ x0.signs.map dSg)))] : Sl) = _
    rw [← List.map_append, ← List.map_append]
  · rintro S C ⟨tx, sg, o8, rfl, ht, hsg, hpg, rfl⟩
    generalize cutD (dPcs ps) (some at_) (some (at_ + n)) = items at *
    refine ⟨by show tx.length + 1 ≤ _; omega, by show (sg.map dSg).length + (x0.signs.map dSg).length ≤ _; rw [List.length_map, List.length_map]; have := lx.1; omega, ?_⟩
    refine ⟨p5, _, ns, rfl, rfl, h5, by omega, n0, n1, fun ws p6 w1 w2 h6 => ?_⟩
    refine ⟨⟨tx ++ [34], sg ++ x0.signs, []⟩, ws, ?_, rfl, by omega, by show (sg ++ x0.signs).length ≤ _; rw [List.length_append]; have := lx.1; omega, fun paint => ?_⟩
    · unfold dPc
      rw [List.map_append]; rfl
    · refine hq _ p6 ⟨by show ((sg ++ x0.signs).map _).length ≤ _; rw [List.length_map, List.length_append]; have := lx.1; omega, fun s hs => ?_⟩ (h6.mono (by omega))
      obtain ⟨s0, h0, rfl⟩ := List.mem_map.mp hs
      rcases List.mem_append.mp h0 with h0 | h0
      · exact hpg s0 h0
      · exact lx.2.2 s0 h0


end Z

namespace Z
open PySem PySem.Spec PyProof.Rows L2
/-! ### origins -/
/-- all signs of pieces -/
def sgsOf (ps : List PC) : List SG := ps.flatMap (·.signs)
theorem sgsOf_more {ps : List PC} {i : Nat} {q : PC} (h : ps[i]? = some q) : sgsOf (ps.take (i + 1)) = sgsOf (ps.take i) ++ q.signs := by
  unfold sgsOf
  rw [take_more h, List.flatMap_append, List.flatMap_singleton]
theorem sgsOf_le {ps : List PC} {n : Nat} (h : ∀ q ∈ ps, q.signs.length ≤ n) : (sgsOf ps).length ≤ ps.length * n := by
  induction ps with
  | nil => exact Nat.zero_le _
  | cons q ps ih =>
    unfold sgsOf at *
    rw [List.flatMap_cons, List.length_append, List.length_cons, Nat.succ_mul]
    have h1 := h q List.mem_cons_self
    have h2 := ih fun x hx => h x (List.mem_cons_of_mem _ hx)
    omega
theorem sgsOf_take (ps : List PC) (i : Nat) : (sgsOf (ps.take i)).length ≤ (sgsOf ps).length := by
  unfold sgsOf
  conv => rhs; rw [← List.take_append_drop i ps, List.flatMap_append, List.length_append]
  omega
def sp_origins : DSp := fun xs C Q => ∃ ps : List PC, xs = [.bor (dPcs ps)] ∧ C = [] ∧ (sgsOf ps).length ≤ 1000000 ∧ Q (.cel 0) [.lst ((sgsOf ps).map dSg)]

end Z

namespace Z
open PySem PySem.Spec PyProof.Rows L2
/-! ### k34: the law -/
/-- a place -/
structure Pla where
  page : Tx
  row : Int
  col : Int
def dPla (a : Pla) : D := .tup [.str a.page, .int a.row, .int a.col]
def here (a : Pla) (s : SG) : Bool := decide (s.page = a.page ∧ s.row = a.row ∧ s.col = a.col)
def hit (a : Pla) (l : List SG) (j : Nat) : Bool := match l[j]? with | some s => here a s | none => false
def rowD (a : Pla) (i : Nat) (l : List SG) (n : Nat) : List D := ((List.range n).filter (hit a l)).map fun j : Nat => D.tup [.int (i : Nat), .int (j : Nat)]
def fromD (a : Pla) (ps : List PC) (n : Nat) : List D := (List.range n).flatMap fun i => match ps[i]? with | some q => rowD a i q.signs q.signs.length | none => []
theorem fromD_more {a : Pla} {ps : List PC} {i : Nat} {q : PC} (h : ps[i]? = some q) : fromD a ps (i + 1) = fromD a ps i ++ rowD a i q.signs q.signs.length := by
  unfold fromD
  rw [List.range_succ, List.flatMap_append, List.flatMap_singleton, h]
theorem rowD_more {a : Pla} {l : List SG} {i j : Nat} {s : SG} (h : l[j]? = some s) : rowD a i l (j + 1) = rowD a i l j ++ (if here a s = true then [D.tup [.int (i : Nat), .int (j : Nat)]] else []) := by
  unfold rowD
  rw [List.range_succ, List.filter_append, List.map_append]
  congr 1
  have e : hit a l j = here a s := by unfold hit; rw [h]
  by_cases q : here a s = true
  · rw [if_pos q, List.filter_cons_of_pos (by rw [e]; exact q)]; rfl
  · rw [if_neg q, List.filter_cons_of_neg (by rw [e]; exact q)]; rfl
theorem rowD_len (a : Pla) (l : List SG) (i j : Nat) : (rowD a i l j).length ≤ j := by
  unfold rowD
  rw [List.length_map]
  have := List.length_filter_le (hit a l) (List.range j)
  rwa [List.length_range] at this
theorem fromD_len {a : Pla} {ps : List PC} {n : Nat} (h : ∀ q ∈ ps, q.signs.length ≤ n) : ∀ i : Nat, i ≤ ps.length → (fromD a ps i).length ≤ i * n
  | 0, _ => Nat.zero_le _
  | i + 1, hi => by
    have e : ps[i]? = some ps[i] := List.getElem?_eq_getElem (by omega)
    rw [fromD_more e, List.length_append, Nat.succ_mul]
    have h1 := fromD_len (a := a) h i (by omega)
    have h2 := rowD_len a ps[i].signs i ps[i].signs.length
    have h3 := h ps[i] (List.getElem_mem _)
    generalize (fromD a ps i).length = x at *
    omega
theorem eqD_here (a : Pla) (s : SG) : eqD (.tup [.str s.page, .int s.row, .int s.col]) (dPla a) = here a s := by
  show (eqD (.str s.page) (.str a.page) && (eqD (.int s.row) (.int a.row) && (eqD (.int s.col) (.int a.col) && true))) = _
  unfold here
  rw [eqD_str, eqD_int, eqD_int, Bool.and_true, Bool.eq_iff_iff]
  simp only [Bool.and_eq_true, decide_eq_true_eq]
theorem enum_get {α : Type} {f : α → D} {l : List α} {i : Nat} {d : D} (h : (enumD 0 (l.map f))[i]? = some d) : ∃ x, l[i]? = some x ∧ d = .tup [.int (i : Nat), f x] := by
  have hi := (List.getElem?_eq_some_iff.mp h).1
  rw [enumD_len, List.length_map] at hi
  have e : l[i]? = some l[i] := List.getElem?_eq_getElem hi
  have q := enumD_at (k := 0) (show (l.map f)[i]? = some (f l[i]) by rw [List.getElem?_map, e]; rfl)
  rw [h, Nat.zero_add] at q
  exact ⟨l[i], e, Option.some.inj q⟩
def sp_signs_from : DSp := fun xs C Q => ∃ (ps : List PC) (a : Pla), xs = [.bor (dPcs ps), .of (dPla a)] ∧ C = [] ∧ ps.length ≤ 100 ∧ (∀ q ∈ ps, q.signs.length ≤ 5000) ∧ Q (.cel 0) [.lst (fromD a ps ps.length)]
theorem ok_signs_from {P : Program} {w : World} {K : PySem.W.Frag} {mg : Str → Option Value} (T : Top w K mg) : ∃ fd : FuncData, FunD K "signs_from" "signs_from" (defArgs st_signs_from) (defBody st_signs_from) (defScope st_signs_from) (dd_signs_from.dvs K) (dd_signs_from.kws K) (He.ga K "signs_from") fd ∧ ∀ base : Heap, FnOk P w K mg base CX0 1 (He.ga K "signs_from") fd ["pieces", "place"] (rawSp K 2 sp_signs_from) := by
  obtain ⟨fd, F⟩ := T.f_signs_from
  refine ⟨fd, F, fun base => fn_d F sc_signs_from (fun cdv A outer s H E hr => ⟨_, _, QSs.nox
 ((qss_one (qs_ret (qe_lc2 (own := [("at", 2), ("piece", 3), ("spot", 4), ("sign", 5)]) (vs1 := [4, 5]) rfl sc_signs_from.nd (qi_enumQ rfl (by rfl) T.n_enumerate (qa_cons (qv 0) qa_nil)) (blkOk_by (N := ["pieces", "place", "at", "piece", "spot", "sign"]) (sc := defScope st_signs_from) (by decide +kernel)) (by decide) (fun _ _ _ _ _ => (qg_tup (n := 2) rfl rfl (qgs_cons (qg_name (i := 2) sc_signs_from.nd rfl (Or.inl rfl)) (qgs_cons (qg_name (i := 3) sc_signs_from.nd rfl (Or.inl rfl)) qgs_nil)))) (gown_tup (gown_cons (gown_name (by decide)) gmono_name (gown_cons (gown_name (by decide)) gmono_name gown_nil))) (fun _ _ _ _ _ => qts_nil) (fun _ _ _ _ _ => (qi_enumA rfl (by rfl) T.n_enumerate (qa_cons (qe_fld rfl T.cl_Piece T.na_Piece_signs (qv 3) rfl) qa_nil))) (fun _ _ _ _ _ => (qg_tup (n := 2) rfl rfl (qgs_cons (qg_name (i := 4) sc_signs_from.nd rfl (Or.inl rfl)) (qgs_cons (qg_name (i := 5) sc_signs_from.nd rfl (Or.inl rfl)) qgs_nil)))) (gown_tup (gown_cons (gown_name (by decide)) gmono_name (gown_cons (gown_name (by decide)) gmono_name gown_nil))) (fun _ _ _ _ _ => (qts_one (qt_cmpR (oq_eqW rfl hr.units) (qe_slice (lq_tup rfl) (qv 5) qo_none (qo_some qe_int)) (qv 1) (nomark _)))) (fun _ _ _ _ _ => (qe_tup (qa_cons (qv 2) (qa_cons (qv 4) qa_nil)))))))), fun xs C Q hlen h => ?_⟩)⟩
  obtain ⟨ps, a, rfl, rfl, hl, hs, hq⟩ := h
  refine ⟨fun i C => C = [.lst (fromD a ps i)], rfl, fun _ _ _ => rfl, ?_, ?_⟩
  · rintro i C d hd rfl
    obtain ⟨q, hq1, rfl⟩ := enum_get hd
    have hi := (List.getElem?_eq_some_iff.mp hq1).1
    have f1 := fromD_len (a := a) hs i (by omega)
    have f2 := hs q (List.mem_of_getElem? hq1)
    refine ⟨rfl, rfl, _, rfl, ?_⟩
    refine ⟨fun j C => C = [.lst (fromD a ps i ++ rowD a i q.signs j)], by show [DC.lst (fromD a ps i)] = [DC.lst (fromD a ps i ++ [])]; rw [List.append_nil], fun _ _ _ => True.intro, ?_, ?_⟩
    · rintro j C d1 hd1 rfl
      obtain ⟨s, hs1, rfl⟩ := enum_get hd1
      have hj := (List.getElem?_eq_some_iff.mp hs1).1
      have f3 := rowD_len a q.signs i j
      refine ⟨rfl, ⟨rfl, rfl⟩, ?_⟩
      show if eqD (.tup [.str s.page, .int s.row, .int s.col]) (dPla a) = true then _ else _
      rw [eqD_here]
      refine iteB (fun g => ?_) (fun g => ?_)
      · refine ⟨_, rfl, by rw [List.length_append]; omega, ?_⟩
        show [DC.lst (fromD a ps i ++ rowD a i q.signs j ++ [.tup [.int (i : Nat), .int (j : Nat)]])] = [DC.lst (fromD a ps i ++ rowD a i q.signs (j + 1))]
        rw [rowD_more hs1, if_pos g, List.append_assoc]
      · show [DC.lst (fromD a ps i ++ rowD a i q.signs j)] = [DC.lst (fromD a ps i ++ rowD a i q.signs (j + 1))]
        rw [rowD_more hs1, if_neg (by rw [g]; decide), List.append_nil]
    · rintro C rfl
      rw [enumD_len, List.length_map]
      show [DC.lst (fromD a ps i ++ rowD a i q.signs q.signs.length)] = [DC.lst (fromD a ps (i + 1))]
      rw [fromD_more hq1]
  · rintro C rfl
    rw [enumD_len, List.length_map]
    exact hq

def sp__law_due : DSp := fun xs C Q => ∃ (ps : List PC) (a : Pla), xs = [.bor (dPcs ps), .of (dPla a)] ∧ C = [] ∧ ps.length ≤ 100 ∧ (∀ q ∈ ps, q.signs.length ≤ 5000) ∧ Q (.cel 0) [.lst (fromD a ps ps.length)]
theorem ok__law_due {P : Program} {w : World} {K : PySem.W.Frag} {mg : Str → Option Value} (T : Top w K mg) : ∃ fd : FuncData, FunD K "_law_due" "_law_due" (defArgs st__law_due) (defBody st__law_due) (defScope st__law_due) (dd__law_due.dvs K) (dd__law_due.kws K) (He.ga K "_law_due") fd ∧ ∀ base : Heap, FnOk P w K mg base CX0 1 (He.ga K "_law_due") fd ["_law_handed", "_law_there_at"] (rawSp K 2 sp__law_due) := by
  obtain ⟨fd, F⟩ := T.f__law_due
  refine ⟨fd, F, fun base => fn_d F sc__law_due (fun cdv A outer s H E hr => ⟨_, _, QSs.nox
 ((qss_cons (qs_set (i := 2) sc__law_due.nd rfl (Or.inl rfl) (qe_lst qa_nil))
 (qss_cons (qs_for PassesOwn.never rfl (qi_enumQ rfl (by rfl) T.n_enumerate (qa_cons (qv 0) qa_nil)) (qg_tup (n := 2) rfl rfl (qgs_cons (qg_name (i := 3) sc__law_due.nd rfl (Or.inl rfl)) (qgs_cons (qg_name (i := 4) sc__law_due.nd rfl (Or.inl rfl)) qgs_nil)))
 (qss_one (qs_for PassesOwn.never rfl (qi_enumA rfl (by rfl) T.n_enumerate (qa_cons (qe_fld rfl T.cl_Piece T.na_Piece_signs (qv 4) rfl) qa_nil)) (qg_tup (n := 2) rfl rfl (qgs_cons (qg_name (i := 5) sc__law_due.nd rfl (Or.inl rfl)) (qgs_cons (qg_name (i := 6) sc__law_due.nd rfl (Or.inl rfl)) qgs_nil)))
 (qss_one (qs_if (qt_cmpR (oq_eqW rfl hr.units) (qe_slice (lq_tup rfl) (qv 6) qo_none (qo_some qe_int)) (qv 1) (nomark _))
 (qss_one (qs_expr (qe_bmL rfl PySem.F.slot_list_append PySem.F.type_list_append mt_append refM_append (qv 2) (qa_cons (qe_tup (qa_cons (qv 3) (qa_cons (qv 5) qa_nil))) qa_nil))))
 qss_nil)))))
 (qss_one (qs_ret (qv 2)))))), fun xs C Q hlen h => ?_⟩)⟩
  obtain ⟨ps, a, rfl, rfl, hl, hs, hq⟩ := h
  refine ⟨fun i S C => ∃ o3 o4 o5 o6, S = [some (.bor (dPcs ps)), some (.of (dPla a)), some (.cel 0), o3, o4, o5, o6] ∧ C = [.lst (fromD a ps i)], ⟨_, _, _, _, rfl, rfl⟩, fun _ _ _ _ => rfl, ?_, ?_⟩
  · rintro i d S C hd ⟨o3, o4, o5, o6, rfl, rfl⟩
    obtain ⟨q, hq1, rfl⟩ := enum_get hd
    have hi := (List.getElem?_eq_some_iff.mp hq1).1
    have f1 := fromD_len (a := a) hs i (by omega)
    have f2 := hs q (List.mem_of_getElem? hq1)
    refine ⟨rfl, rfl, _, rfl, ?_⟩
    refine ⟨fun j S C => ∃ o5 o6, S = [some (.bor (dPcs ps)), some (.of (dPla a)), some (.cel 0), some (.of (.int (i : Nat))), some (.of (dPc q)), o5, o6] ∧ C = [.lst (fromD a ps i ++ rowD a i q.signs j)], ⟨_, _, rfl, by show [DC.lst (fromD a ps i)] = [DC.lst (fromD a ps i ++ [])]; rw [List.append_nil]⟩, fun _ _ _ _ => True.intro, ?_, ?_⟩
    · rintro j d1 S C hd1 ⟨o5, o6, rfl, rfl⟩
      obtain ⟨s, hs1, rfl⟩ := enum_get hd1
      have hj := (List.getElem?_eq_some_iff.mp hs1).1
      have f3 := rowD_len a q.signs i j
      refine ⟨rfl, ⟨rfl, rfl⟩, ?_⟩
      show if eqD (.tup [.str s.page, .int s.row, .int s.col]) (dPla a) = true then _ else _
      rw [eqD_here]
      refine iteB (fun g => ?_) (fun g => ?_)
      · refine ⟨by rw [List.length_append]; omega, _, _, rfl, ?_⟩
        show [DC.lst (fromD a ps i ++ rowD a i q.signs j ++ [.tup [.int (i : Nat), .int (j : Nat)]])] = [DC.lst (fromD a ps i ++ rowD a i q.signs (j + 1))]
        rw [rowD_more hs1, if_pos g, List.append_assoc]
      · refine ⟨_, _, rfl, ?_⟩
        show [DC.lst (fromD a ps i ++ rowD a i q.signs j)] = [DC.lst (fromD a ps i ++ rowD a i q.signs (j + 1))]
        rw [rowD_more hs1, if_neg (by rw [g]; decide), List.append_nil]
    · rintro S C ⟨o5, o6, rfl, rfl⟩
      rw [enumD_len, List.length_map]
      refine ⟨_, _, _, _, rfl, ?_⟩
      show [DC.lst (fromD a ps i ++ rowD a i q.signs q.signs.length)] = [DC.lst (fromD a ps (i + 1))]
      rw [fromD_more hq1]
  · rintro S C ⟨o3, o4, o5, o6, rfl, rfl⟩
    rw [enumD_len, List.length_map]
    exact hq

def sp__law_whole : DSp := fun xs C Q => ∃ i : Int, xs = [.of (.int i)] ∧ C = [] ∧ Q (.of (.bl true)) []
theorem ok__law_whole {P : Program} {w : World} {K : PySem.W.Frag} {mg : Str → Option Value} (T : Top w K mg) : ∃ fd : FuncData, FunD K "_law_whole" "_law_whole" (defArgs st__law_whole) (defBody st__law_whole) (defScope st__law_whole) (dd__law_whole.dvs K) (dd__law_whole.kws K) (He.ga K "_law_whole") fd ∧ ∀ base : Heap, FnOk P w K mg base CX0 1 (He.ga K "_law_whole") fd ["_law_thing"] (rawSp K 1 sp__law_whole) := by
  obtain ⟨fd, F⟩ := T.f__law_whole
  refine ⟨fd, F, fun base => fn_d F sc__law_whole (fun cdv A outer s H E hr => ⟨_, _, QSs.nox
 ((qss_one (qs_ret (qe_and (qe_callB (cq_isiT (K := K) rfl .int [] (by simp) (fun _ h => nomatch h)) (by rfl) T.n_isinstance (by decide +kernel) (qa_cons (qv 0) (qa_cons (qe_bltn (v := .ty "int") (by rfl) T.n_int (by decide +kernel) rfl) qa_nil))) (qe_one (qe_not (qe_callB (cq_isiT (K := K) rfl .bl [] (by simp) (fun _ h => nomatch h)) (by rfl) T.n_isinstance (by decide +kernel) (qa_cons (qv 0) (qa_cons (qe_bltn (v := .ty "bool") (by rfl) T.n_bool (by decide +kernel) rfl) qa_nil))))))))), fun xs C Q hlen h => ?_⟩)⟩
  obtain ⟨i, rfl, rfl, hq⟩ := h
  exact ⟨rfl, rfl, hq⟩

def sp__law_asked : DSp := fun xs C Q => ∃ (p : Pu) (k : Nat) (ps : List PC), xs = [.cel 0, .bor (dPcs ps)] ∧ C = [pu p] ∧ PuOk k p ∧ k ≤ 900000 ∧ ps.length ≤ 100 ∧ (∀ q ∈ ps, q.signs.length ≤ 5000 ∧ ∀ s ∈ q.signs, s.page.length ≤ 1) ∧ ∀ (a : Pla) p', PuOk (k + 3) p' → Q (.of (dPla a)) [pu p']
theorem ok__law_asked {P : Program} {w : World} {K : PySem.W.Frag} {mg : Str → Option Value} (T : Top w K mg) : ∃ fd : FuncData, FunD K "_law_asked" "_law_asked" (defArgs st__law_asked) (defBody st__law_asked) (defScope st__law_asked) (dd__law_asked.dvs K) (dd__law_asked.kws K) (He.ga K "_law_asked") fd ∧ ∀ base : Heap, FnOk P w K mg base CX0 2 (He.ga K "_law_asked") fd ["_law_purse_here", "_law_handed"] (rawSp K 2 sp__law_asked) := by
  obtain ⟨fd, F⟩ := T.f__law_asked
  refine ⟨fd, F, fun base => fn_d F sc__law_asked (fun cdv A outer s H E hr => ⟨_, _, QSs.nox
 ((qss_cons (qs_set (i := 2) sc__law_asked.nd rfl (Or.inl rfl) (qe_lst (qa_cons (qe_tup (qa_cons (qe_strc (l := [114]) (by decide +kernel)) (qa_cons qe_int (qa_cons qe_int qa_nil)))) qa_nil)))
 (qss_cons (qs_for PassesOwn.never rfl (qi_list rfl (qv 1)) (qg_name (i := 3) sc__law_asked.nd rfl (Or.inl rfl))
 (qss_one (qs_expr (qe_bmL rfl PySem.F.slot_list_extend PySem.F.type_list_extend mt_extend refM_extend (qv 2) (qa_cons (qe_lc (own := [("_law_sign", 8)]) rfl sc__law_asked.nd (qi_tup rfl (qe_fld rfl T.cl_Piece T.na_Piece_signs (qv 3) rfl)) (blkOk_by (N := ["_law_purse_here", "_law_handed", "_law_signs", "_law_piece", "_law_leaf", "_law_row", "_law_column", "_law_way_here", "_law_sign"]) (sc := defScope st__law_asked) (by decide +kernel)) (fun _ _ _ _ _ => (qg_name (i := 8) sc__law_asked.nd rfl (Or.inl rfl))) (gown_name (by decide)) (fun _ _ _ _ _ => qts_nil) (fun _ _ _ _ _ => (qe_slice (lq_tup rfl) (qv 8) qo_none (qo_some qe_int)))) qa_nil)))))
 (qss_cons (qs_asg (qe_ix (xq_list rfl) (qv 2) (qc (mds := [.io, .b]) (cal__law_take_2 (K := K) T) (cal__law_take_2_r (K := K) T) hr (by decide) L2.pass0 rfl rfl (qa_cons (qv 0) (qa_cons (qe_callB (cq_len_seq rfl) (by rfl) T.n_len (by decide +kernel) (qa_cons (qv 2) qa_nil)) qa_nil))) (fun _ _ => rfl)) (qg_tup (n := 3) rfl rfl (qgs_cons (qg_nameF (i := 4) sc__law_asked.nd rfl (Or.inl rfl)) (qgs_cons (qg_nameF (i := 5) sc__law_asked.nd rfl (Or.inl rfl)) (qgs_cons (qg_nameF (i := 6) sc__law_asked.nd rfl (Or.inl rfl)) qgs_nil)))))
 (qss_cons (qs_set (i := 7) sc__law_asked.nd rfl (Or.inl rfl) (qc (mds := [.io, .b]) (cal__law_take_2 (K := K) T) (cal__law_take_2_r (K := K) T) hr (by decide) L2.pass0 rfl rfl (qa_cons (qv 0) (qa_cons qe_int qa_nil))))
 (qss_cons (qs_if (qt_cmpR oq_eq (qv 7) qe_int (nomark _))
 (qss_one (qs_ret (qe_tup (qa_cons (qe_ix (xq_list rfl) (qe_lst (qa_cons (qe_op oq_add_str (qv 4) (qe_strc (l := [120]) (by decide +kernel))) (qa_cons (qe_strc (l := []) (by decide +kernel)) (qa_cons (qe_strc (l := [110]) (by decide +kernel)) qa_nil)))) (qc (mds := [.io, .b]) (cal__law_take_2 (K := K) T) (cal__law_take_2_r (K := K) T) hr (by decide) L2.pass0 rfl rfl (qa_cons (qv 0) (qa_cons qe_int qa_nil))) (fun _ _ => rfl)) (qa_cons (qv 5) (qa_cons (qv 6) qa_nil))))))
 qss_nil)
 (qss_one (qs_ret (qe_tup (qa_cons (qv 4) (qa_cons (qe_op oq_add (qv 5) (qe_callTy cq_int1 (by rfl) T.n_int (by decide +kernel) (qa_cons (qe_cmpR oq_eq (qv 7) qe_int (nomark _)) qa_nil))) (qa_cons (qe_op oq_add (qv 6) (qe_ix (xq_list rfl) (qe_lst (qa_cons qe_int (qa_cons qe_int (qa_cons qe_int (qa_cons (qe_op oq_pow qe_int qe_int) (qa_cons qe_int (qa_cons qe_int qa_nil))))))) (qv 7) (fun _ _ => rfl))) qa_nil)))))))))))), fun xs C Q hlen h => ?_⟩)⟩
  obtain ⟨p, k, ps, rfl, rfl, hp, hk, hl, hs, hq⟩ := h
  refine ⟨fun i S C => ∃ (pls : List Pla) (o3 : Option DV), S = [some (.cel 0), some (.bor (dPcs ps)), some (.cel 1), o3, none, none, none, none, none] ∧ 1 ≤ pls.length ∧ pls.length ≤ 1 + 5000 * i ∧ (∀ x ∈ pls, x.page.length ≤ 1) ∧ C = [pu p, .lst (pls.map dPla)], ⟨[⟨[114], 0, 0⟩], none, rfl, Nat.le_refl _, Nat.le_refl _, fun x hx => by rw [List.mem_singleton.mp hx]; exact Nat.le_refl 1, rfl⟩, fun _ _ _ _ => rfl, ?_, ?_⟩
  · rintro i d S C hd ⟨pls, o3, rfl, b1, b2, b3, rfl⟩
    obtain ⟨q, hq1, rfl⟩ := map_get hd
    have hi := (List.getElem?_eq_some_iff.mp hq1).1
    obtain ⟨f1, f2⟩ := hs q (List.mem_of_getElem? hq1)
    refine ⟨rfl, _, rfl, ?_⟩
    refine ⟨fun j acc C => acc = (q.signs.take j).map (fun s => dPla ⟨s.page, s.row, s.col⟩) ∧ C = [pu p, .lst (pls.map dPla)], ⟨rfl, rfl⟩, fun _ _ _ _ => True.intro, ?_, ?_⟩
    · rintro j acc C d1 hd1 ⟨rfl, rfl⟩
      obtain ⟨s, hs1, rfl⟩ := map_get hd1
      have hj := (List.getElem?_eq_some_iff.mp hs1).1
      refine ⟨by rw [List.length_map, List.length_take]; omega, ?_, rfl⟩
      rw [take_more hs1, List.map_append]; rfl
    rintro acc C ⟨rfl, rfl⟩
    rw [List.length_map, List.take_length]
    refine ⟨by show (pls.map dPla).length + (q.signs.map _).length ≤ _; rw [List.length_map, List.length_map]; omega, pls ++ q.signs.map (fun s => ⟨s.page, s.row, s.col⟩), _, rfl, by rw [List.length_append]; omega, by rw [List.length_append, List.length_map]; omega, fun x hx => ?_, ?_⟩
    · rcases List.mem_append.mp hx with hx | hx
      · exact b3 x hx
      · obtain ⟨s, h1, rfl⟩ := List.mem_map.mp hx
        exact f2 s h1
    · show [pu p, .lst (pls.map dPla ++ q.signs.map fun s => dPla ⟨s.page, s.row, s.col⟩)] = [pu p, .lst ((pls ++ q.signs.map (fun s => (⟨s.page, s.row, s.col⟩ : Pla))).map dPla)]
      rw [List.map_append, List.map_map]; rfl
  · rintro S C ⟨pls, o3, rfl, b1, b2, b3, rfl⟩
    rw [show (dPcs ps).length = ps.length from List.length_map _] at b2
    refine ⟨p, _, _, rfl, rfl, hp, by omega, by rw [List.length_map]; omega, by rw [List.length_map]; omega, fun r p1 r0 r1 h1 => ?_⟩
    rw [List.length_map] at r1
    obtain ⟨a, e1, e2, _⟩ := at_some (l := pls) r0 r1
    have la := b3 a e2
    refine ⟨dPla a, atI_map (f := dPla) e1, rfl, ?_⟩
    refine ⟨p1, _, 6, rfl, rfl, h1, by omega, by decide, by decide, fun w p2 w0 w1 h2 => ?_⟩
    refine iteD (fun c => ?_) (fun c => ?_)
    · refine ⟨by show a.page.length + 1 ≤ _; omega, p2, _, 3, rfl, rfl, h2, by omega, by decide, by decide, fun z p3 z0 z1 h3 => ?_⟩
      obtain ⟨v, e3, e4, _⟩ := at_some (l := ([a.page ++ [120], [], [110]] : List Tx)) z0 z1
      exact ⟨.str v, atI_map (f := D.str) e3, hq ⟨v, a.row, a.col⟩ p3 (h3.mono (by omega))⟩
    · obtain ⟨v, e3, e4, _⟩ := at_some (l := ([0, 0, 1, 10 ^ Int.toNat 6, 0, 0] : List Int)) w0 w1
      exact ⟨⟨by decide, by decide, by decide⟩, .int v, atI_map (f := D.int) e3, hq ⟨a.page, a.row + (if decide (w = 1) = true then 1 else 0), a.col + v⟩ p2 (h2.mono (by omega))⟩

theorem met_Piece_eq_1 {P : Program} {w : World} {K : PySem.W.Frag} {mg : Str → Option Value} {base : Heap} (T : Top w K mg) : MethC P w K mg base CX0 1 "Piece" "__eq__" (rawSp K 2 sp_Piece_eq) [] := by
  obtain ⟨fd, F, S⟩ := ok_Piece_eq (P := P) T
  have hB : Binds K fd ["self", "other"] [] := F.bindsN (fun _ _ _ _ _ _ us hl => match us, hl with | [_, _], _ => rfl)
  exact ⟨_, fd, _, [], T.cl_Piece, T.m_Piece___eq__, S base, hB, .nil⟩
theorem met_Piece_eq_1_r {w : World} {K : PySem.W.Frag} {mg : Str → Option Value} (T : Top w K mg) : ∀ W, RepVs K W [] ([] : List DV) := fun W => .nil

theorem ownq_pc {P : Program} {w : World} {K : PySem.W.Frag} {mg : Str → Option Value} {base : Heap} (T : Top w K mg) : OwnQ P w K mg base CX0 1 ownPc [("Piece" : Str)] := by
  refine ⟨fun c a b r h hc => ?_, ownPc_refl, fun c h c' h' _ => by rw [List.mem_singleton.mp h, List.mem_singleton.mp h']⟩
  obtain ⟨e1, p, e2, q⟩ := ownPc_inv h
  subst e1 e2
  refine ⟨1, _, sp_Piece_eq, Nat.le_refl _, met_Piece_eq_1 T, T.ow_Piece, T.ci_Piece, ?_⟩
  refine ⟨p, .of b, r, rfl, rfl, ?_, rfl⟩
  rcases q with ⟨p2, h1, h2⟩ | ⟨hn, h2⟩
  · exact .inl ⟨p2, congrArg DV.of h1, h2⟩
  · exact .inr ⟨hn, h2⟩
theorem pl_rowD (n : Nat) (a : Pla) (i : Nat) (l : List SG) (j : Nat) : plDs (n + 1) (rowD a i l j) = true := by
  unfold rowD
  refine plDs_map (fun x => ?_) _
  refine plD_tup ?_
  show (plD n (.int (i : Nat)) && (plD n (.int (x : Nat)) && true)) = true
  rw [plD_int, plD_int]; rfl
theorem plDs_app {n : Nat} : ∀ {l m : List D}, plDs n l = true → plDs n m = true → plDs n (l ++ m) = true
  | [], _, _, h => h
  | d :: l, m, h, h2 => by
    obtain ⟨q1, q2⟩ := Bool.and_eq_true_iff.mp (show (plD n d && plDs n l) = true from h)
    show (plD n d && plDs n (l ++ m)) = true
    rw [q1, plDs_app q2 h2]; rfl
theorem pl_fromD (n : Nat) (a : Pla) (ps : List PC) : ∀ i, i ≤ ps.length → plDs (n + 1) (fromD a ps i) = true
  | 0, _ => by cases n <;> rfl
  | i + 1, hi => by
    rw [fromD_more (List.getElem?_eq_getElem (by omega))]
    exact plDs_app (pl_fromD n a ps i (by omega)) (pl_rowD _ _ _ _ _)
/-- pairs of numbers -/
def PairD (d : D) : Prop := ∃ i j : Int, d = .tup [.int i, .int j]
theorem pair_rowD {a : Pla} {i : Nat} {l : List SG} {j : Nat} : ∀ d ∈ rowD a i l j, PairD d := fun d h => by
  obtain ⟨x, _, rfl⟩ := List.mem_map.mp h
  exact ⟨_, _, rfl⟩
theorem pair_fromD {a : Pla} {ps : List PC} {n : Nat} : ∀ d ∈ fromD a ps n, PairD d := fun d h => by
  obtain ⟨i, _, h2⟩ := List.mem_flatMap.mp h
  cases e : ps[i]? with
  | none => rw [e] at h2; cases h2
  | some q => rw [e] at h2; exact pair_rowD d h2
theorem eqD_pairs : ∀ {l : List D}, (∀ d ∈ l, PairD d) → eqDs l l = true
  | [], _ => rfl
  | d :: l, h => by
    obtain ⟨i, j, rfl⟩ := h d List.mem_cons_self
    show (eqD (.tup [.int i, .int j]) (.tup [.int i, .int j]) && eqDs l l) = true
    rw [eqD_pairs fun x hx => h x (List.mem_cons_of_mem _ hx)]
    show ((eqD (.int i) (.int i) && (eqD (.int j) (.int j) && true)) && true) = true
    rw [eqD_int, eqD_int]; simp
theorem allB_rep : ∀ n : Nat, allB (List.replicate n (D.bl true)) = some (List.replicate n true) ∧ (List.replicate n true).all id = true
  | 0 => ⟨rfl, rfl⟩
  | n + 1 => by
    obtain ⟨h1, h2⟩ := allB_rep n
    rw [List.replicate_succ, List.replicate_succ]
    refine ⟨?_, ?_⟩
    · show (allB (List.replicate n (D.bl true))).map (true :: ·) = _
      rw [h1]; rfl
    · rw [List.all_cons, h2]; rfl
def sp_law : DSp := fun xs C Q => ∃ ns : List Int, xs = [.scr (ns.map D.int)] ∧ C = [] ∧ ns.length ≤ 63 ∧ ∀ C', Q (.of (.bl true)) C'
theorem cal__law_purse_2 {P : Program} {w : World} {K : PySem.W.Frag} {mg : Str → Option Value} {base : Heap} (T : Top w K mg) : Callee P w K mg base CX0 1 "_law_purse" (rawSp K 2 sp__law_purse) [] := by
  obtain ⟨fd, F, S⟩ := ok__law_purse (P := P) T
  have hB : Binds K fd ["_law_script", "_law_at"] [] := F.bindsN (fun _ _ _ _ _ _ us hl => match us, hl with | [_, _], _ => rfl)
  exact ⟨fd, _, [], S base, T.g__law_purse, F.kp, hB, .nil⟩
theorem cal__law_purse_2_r {w : World} {K : PySem.W.Frag} {mg : Str → Option Value} (T : Top w K mg) : ∀ W, RepVs K W [] ([] : List DV) := fun W => .nil
theorem cal__law_names_2 {P : Program} {w : World} {K : PySem.W.Frag} {mg : Str → Option Value} {base : Heap} (T : Top w K mg) : Callee P w K mg base CX0 2 "_law_names" (rawSp K 2 sp__law_names) [] := by
  obtain ⟨fd, F, S⟩ := ok__law_names (P := P) T
  have hB : Binds K fd ["_law_purse_here", "_law_many"] [] := F.bindsN (fun _ _ _ _ _ _ us hl => match us, hl with | [_, _], _ => rfl)
  exact ⟨fd, _, [], S base, T.g__law_names, F.kp, hB, .nil⟩
theorem cal__law_names_2_r {w : World} {K : PySem.W.Frag} {mg : Str → Option Value} (T : Top w K mg) : ∀ W, RepVs K W [] ([] : List DV) := fun W => .nil
theorem cal__law_page_1 {P : Program} {w : World} {K : PySem.W.Frag} {mg : Str → Option Value} {base : Heap} (T : Top w K mg) : Callee P w K mg base CX0 2 "_law_page" (rawSp K 1 sp__law_page) [] := by
  obtain ⟨fd, F, S⟩ := ok__law_page (P := P) T
  have hB : Binds K fd ["_law_purse_here"] [] := F.bindsN (fun _ _ _ _ _ _ us hl => match us, hl with | [_], _ => rfl)
  exact ⟨fd, _, [], S base, T.g__law_page, F.kp, hB, .nil⟩
theorem cal__law_page_1_r {w : World} {K : PySem.W.Frag} {mg : Str → Option Value} (T : Top w K mg) : ∀ W, RepVs K W [] ([] : List DV) := fun W => .nil
theorem cal__law_own_piece_3 {P : Program} {w : World} {K : PySem.W.Frag} {mg : Str → Option Value} {base : Heap} (T : Top w K mg) : Callee P w K mg base CX0 4 "_law_own_piece" (rawSp K 3 sp__law_own_piece) [] := by
  obtain ⟨fd, F, S⟩ := ok__law_own_piece (P := P) T
  have hB : Binds K fd ["_law_purse_here", "_law_leaves", "_law_names_here"] [] := F.bindsN (fun _ _ _ _ _ _ us hl => match us, hl with | [_, _, _], _ => rfl)
  exact ⟨fd, _, [], S base, T.g__law_own_piece, F.kp, hB, .nil⟩
theorem cal__law_own_piece_3_r {w : World} {K : PySem.W.Frag} {mg : Str → Option Value} (T : Top w K mg) : ∀ W, RepVs K W [] ([] : List DV) := fun W => .nil
theorem cal__law_asked_2 {P : Program} {w : World} {K : PySem.W.Frag} {mg : Str → Option Value} {base : Heap} (T : Top w K mg) : Callee P w K mg base CX0 2 "_law_asked" (rawSp K 2 sp__law_asked) [] := by
  obtain ⟨fd, F, S⟩ := ok__law_asked (P := P) T
  have hB : Binds K fd ["_law_purse_here", "_law_handed"] [] := F.bindsN (fun _ _ _ _ _ _ us hl => match us, hl with | [_, _], _ => rfl)
  exact ⟨fd, _, [], S base, T.g__law_asked, F.kp, hB, .nil⟩
theorem cal__law_asked_2_r {w : World} {K : PySem.W.Frag} {mg : Str → Option Value} (T : Top w K mg) : ∀ W, RepVs K W [] ([] : List DV) := fun W => .nil
theorem cal_signs_from_2 {P : Program} {w : World} {K : PySem.W.Frag} {mg : Str → Option Value} {base : Heap} (T : Top w K mg) : Callee P w K mg base CX0 1 "signs_from" (rawSp K 2 sp_signs_from) [] := by
  obtain ⟨fd, F, S⟩ := ok_signs_from (P := P) T
  have hB : Binds K fd ["pieces", "place"] [] := F.bindsN (fun _ _ _ _ _ _ us hl => match us, hl with | [_, _], _ => rfl)
  exact ⟨fd, _, [], S base, T.g_signs_from, F.kp, hB, .nil⟩
theorem cal_signs_from_2_r {w : World} {K : PySem.W.Frag} {mg : Str → Option Value} (T : Top w K mg) : ∀ W, RepVs K W [] ([] : List DV) := fun W => .nil
theorem cal_signs_from_0_place_pieces {P : Program} {w : World} {K : PySem.W.Frag} {mg : Str → Option Value} {base : Heap} (T : Top w K mg) : CalleeK P w K mg base CX0 1 "signs_from" (rawSp K 2 sp_signs_from) 0 ["place", "pieces"] (fun vs zs => vs ++ (pick 1 zs ++ (pick 0 zs ++ []))) := by
  obtain ⟨fd, F, S⟩ := ok_signs_from (P := P) T
  have hB : KBn K fd ["pieces", "place"] 0 ["place", "pieces"] _ _ := kbindsA F (fun us ws => us ++ (pick 1 ws ++ (pick 0 ws ++ []))) (fun r1 rw => Vals.append r1 (Vals.append (vpick 1 rw) (Vals.append (vpick 0 rw) (.nil)))) (fun _ _ _ _ _ _ us ws h1 h2 => match us, ws, h1, h2 with | [], [_, _], _, _ => rfl)
  exact ⟨fd, _, _, S base, T.g_signs_from, F.kp, hB⟩
theorem cal_signs_from_0_place_pieces_r {w : World} {K : PySem.W.Frag} {mg : Str → Option Value} (T : Top w K mg) : GRel K 0 (["place", "pieces"] : List Str).length 2 (fun vs zs => vs ++ (pick 1 zs ++ (pick 0 zs ++ []))) (fun xs ys => xs ++ (pick 1 ys ++ (pick 0 ys ++ []))) := by
  intro W vs zs xs ys r1 r2 h1 h2
  refine ⟨RepVs.app r1 (RepVs.app (RepVs.pick 1 r2) (RepVs.app (RepVs.pick 0 r2) .nil)), ?_⟩
  match vs, zs, h1, h2 with
  | [], [z0, z1], _, _ => rfl
theorem cal__law_due_2 {P : Program} {w : World} {K : PySem.W.Frag} {mg : Str → Option Value} {base : Heap} (T : Top w K mg) : Callee P w K mg base CX0 1 "_law_due" (rawSp K 2 sp__law_due) [] := by
  obtain ⟨fd, F, S⟩ := ok__law_due (P := P) T
  have hB : Binds K fd ["_law_handed", "_law_there_at"] [] := F.bindsN (fun _ _ _ _ _ _ us hl => match us, hl with | [_, _], _ => rfl)
  exact ⟨fd, _, [], S base, T.g__law_due, F.kp, hB, .nil⟩
theorem cal__law_due_2_r {w : World} {K : PySem.W.Frag} {mg : Str → Option Value} (T : Top w K mg) : ∀ W, RepVs K W [] ([] : List DV) := fun W => .nil
theorem cal__law_whole_1 {P : Program} {w : World} {K : PySem.W.Frag} {mg : Str → Option Value} {base : Heap} (T : Top w K mg) : Callee P w K mg base CX0 1 "_law_whole" (rawSp K 1 sp__law_whole) [] := by
  obtain ⟨fd, F, S⟩ := ok__law_whole (P := P) T
  have hB : Binds K fd ["_law_thing"] [] := F.bindsN (fun _ _ _ _ _ _ us hl => match us, hl with | [_], _ => rfl)
  exact ⟨fd, _, [], S base, T.g__law_whole, F.kp, hB, .nil⟩
theorem cal__law_whole_1_r {w : World} {K : PySem.W.Frag} {mg : Str → Option Value} (T : Top w K mg) : ∀ W, RepVs K W [] ([] : List DV) := fun W => .nil
theorem ok_law {P : Program} {w : World} {K : PySem.W.Frag} {mg : Str → Option Value} (T : Top w K mg) : ∃ fd : FuncData, FunD K "law" "law" (defArgs st_law) (defBody st_law) (defScope st_law) (dd_law.dvs K) (dd_law.kws K) (He.ga K "law") fd ∧ ∀ base : Heap, FnOk P w K mg base CX0 8 (He.ga K "law") fd ["_law_script"] (rawSp K 1 sp_law) := by
  obtain ⟨fd, F⟩ := T.f_law
  refine ⟨fd, F, fun base => fn_d F sc_law (fun cdv A outer s H E hr => ⟨_, _, QSs.nox
 ((qss_cons (qs_for PassesOwn.never rfl (qi_range1 rfl T.n_range (qa_cons (qe_callB (cq_max2 rfl) (by rfl) T.n_max (by decide +kernel) (qa_cons qe_int (qa_cons (qe_callB (cq_min2 rfl) (by rfl) T.n_min (by decide +kernel) (qa_cons qe_int (qa_cons (qe_callB (cq_len_seq rfl) (by rfl) T.n_len (by decide +kernel) (qa_cons (qv 0) qa_nil)) qa_nil))) qa_nil))) qa_nil)) (qg_name (i := 1) sc_law.nd rfl (Or.inl rfl))
 (qss_cons (qs_set (i := 2) sc_law.nd rfl (Or.inr rfl) (qc (mds := [.b, .b]) (cal__law_purse_2 (K := K) T) (cal__law_purse_2_r (K := K) T) hr (by decide) L2.pass0 rfl rfl (qa_cons (qv 0) (qa_cons (qv 1) qa_nil))))
 (qss_cons (qs_setF (i := 3) sc_law.nd rfl (Or.inr rfl) (qc (mds := [.io, .b]) (cal__law_names_2 (K := K) T) (cal__law_names_2_r (K := K) T) hr (by decide) L2.pass0 rfl rfl (qa_cons (qv 2) (qa_cons qe_int qa_nil))))
 (qss_cons (qs_set (i := 4) sc_law.nd rfl (Or.inr rfl) (qe_disp (qps_cons (qe_strc (l := [109]) (by decide +kernel)) (qc (mds := [.io]) (cal__law_page_1 (K := K) T) (cal__law_page_1_r (K := K) T) hr (by decide) L2.pass0 rfl rfl (qa_cons (qv 2) qa_nil)) (qps_cons (qe_strc (l := [114]) (by decide +kernel)) (qc (mds := [.io]) (cal__law_page_1 (K := K) T) (cal__law_page_1_r (K := K) T) hr (by decide) L2.pass0 rfl rfl (qa_cons (qv 2) qa_nil)) qps_nil))))
 (qss_cons (qs_setLc (i := 6) (own := [("_law_turn", 5)]) rfl sc_law.nd rfl rfl (sw_true rfl rfl rfl (by decide +kernel)) (qi_range1 rfl T.n_range (qa_cons (qc (mds := [.io, .b]) (cal__law_take_2 (K := K) T) (cal__law_take_2_r (K := K) T) hr (by decide) L2.pass0 rfl rfl (qa_cons (qv 2) (qa_cons qe_int qa_nil))) qa_nil)) (blkOk_by (N := ["_law_script", "_law_k", "_law_purse_here", "_law_names_here", "_law_leaves", "_law_turn", "_law_handed", "_law_kept", "_law_where", "_law_found", "_law_one", "_law_other"]) (sc := defScope st_law) (by decide +kernel)) (fun _ _ _ _ _ => (qg_name (i := 5) sc_law.nd rfl (Or.inl rfl))) (gown_name (by decide)) (fun _ _ _ _ _ => qts_nil) (fun _ _ _ _ _ => (qc (mds := [.io, .io, .b]) (cal__law_own_piece_3 (K := K) T) (cal__law_own_piece_3_r (K := K) T) hr (by decide) L2.pass0 rfl rfl (qa_cons (qv 2) (qa_cons (qv 4) (qa_cons (qv 3) qa_nil))))) refG_name)
 (qss_cons (qs_if (QW.qt (qw_and (qt_cmpR (oq_neO 4 (ownq_pc (K := K) T) hr (by decide) L2.pass0 rfl) (qv 6) (qe_lst qa_nil) (nomark _)) (qw_and1 (qt_cmpR oq_eq (qc (mds := [.io, .b]) (cal__law_take_2 (K := K) T) (cal__law_take_2_r (K := K) T) hr (by decide) L2.pass0 rfl rfl (qa_cons (qv 2) (qa_cons qe_int qa_nil))) qe_int (nomark _)))))
 (qss_one (qs_expr (qe_bmL rfl PySem.F.slot_list_append PySem.F.type_list_append mt_append refM_append (qv 6) (qa_cons (qe_ix (xq_list rfl) (qv 6) qe_int (fun _ _ => rfl)) qa_nil))))
 qss_nil)
 (qss_cons (qs_setF (i := 7) sc_law.nd rfl (Or.inl rfl) (qe_callTy (cq_list_of rfl) (by rfl) T.n_list (by decide +kernel) (qa_cons (qv 6) qa_nil)))
 (qss_one (qs_for PassesOwn.never rfl (qi_range1 rfl T.n_range (qa_cons qe_int qa_nil)) (qg_name (i := 5) sc_law.nd rfl (Or.inl rfl))
 (qss_cons (qs_set (i := 8) sc_law.nd rfl (Or.inl rfl) (qc (mds := [.io, .b]) (cal__law_asked_2 (K := K) T) (cal__law_asked_2_r (K := K) T) hr (by decide) L2.pass0 rfl rfl (qa_cons (qv 2) (qa_cons (qv 6) qa_nil))))
 (qss_cons (qs_set (i := 9) sc_law.nd rfl (Or.inl rfl) (qe_pick rfl (qc (mds := [.b, .b]) (cal_signs_from_2 (K := K) T) (cal_signs_from_2_r (K := K) T) hr (by decide) L2.pass0 rfl rfl (qa_cons (qv 6) (qa_cons (qv 8) qa_nil))) (qck0 (mds := [.b, .b]) (cal_signs_from_0_place_pieces (K := K) T) (cal_signs_from_0_place_pieces_r (K := K) T) hr (by decide) L2.pass0 rfl rfl  (qk_cons (qv 8) (qk_cons (qv 6) qk_nil))) (qe_op oq_mod (qv 5) qe_int) (fun _ _ => rfl)))
 (qss_cons (qs_if (QW.qt (qw_or (qt_not (qt_val (qe_callB (cq_isiT (K := K) rfl .lst [] (by simp) (fun _ h => nomatch h)) (by rfl) T.n_isinstance (by decide +kernel) (qa_cons (qv 9) (qa_cons (qe_bltn (v := .ty "list") (by rfl) T.n_list (by decide +kernel) rfl) qa_nil))))) (qw_or (qt_cmpR (oq_neW rfl hr.units) (qv 9) (qc (mds := [.b, .b]) (cal__law_due_2 (K := K) T) (cal__law_due_2_r (K := K) T) hr (by decide) L2.pass0 rfl rfl (qa_cons (qv 7) (qa_cons (qv 8) qa_nil))) (nomark _)) (qw_or1 (qt_cmpR oq_ne (qe_callB (cq_len_seq rfl) (by rfl) T.n_len (by decide +kernel) (qa_cons (qv 6) qa_nil)) (qe_callB (cq_len_seq rfl) (by rfl) T.n_len (by decide +kernel) (qa_cons (qv 7) qa_nil)) (nomark _))))))
 (qss_one (qs_ret qe_bl))
 qss_nil)
 (qss_cons (qs_if (qt_not (qt_val (qe_callB (cq_all rfl rfl) (by rfl) T.n_all (by decide +kernel) (qa_cons (qe_lc (own := [("_law_one", 10), ("_law_other", 11)]) rfl sc_law.nd (qi_list rfl (qv 9)) (blkOk_by (N := ["_law_script", "_law_k", "_law_purse_here", "_law_names_here", "_law_leaves", "_law_turn", "_law_handed", "_law_kept", "_law_where", "_law_found", "_law_one", "_law_other"]) (sc := defScope st_law) (by decide +kernel)) (fun _ _ _ _ _ => (qg_tup (n := 2) rfl rfl (qgs_cons (qg_name (i := 10) sc_law.nd rfl (Or.inl rfl)) (qgs_cons (qg_name (i := 11) sc_law.nd rfl (Or.inl rfl)) qgs_nil)))) (gown_tup (gown_cons (gown_name (by decide)) gmono_name (gown_cons (gown_name (by decide)) gmono_name gown_nil))) (fun _ _ _ _ _ => qts_nil) (fun _ _ _ _ _ => (qe_and (qc (mds := [.b]) (cal__law_whole_1 (K := K) T) (cal__law_whole_1_r (K := K) T) hr (by decide) L2.pass0 rfl rfl (qa_cons (qv 10) qa_nil)) (qe_one (qc (mds := [.b]) (cal__law_whole_1 (K := K) T) (cal__law_whole_1_r (K := K) T) hr (by decide) L2.pass0 rfl rfl (qa_cons (qv 11) qa_nil)))))) qa_nil))))
 (qss_one (qs_ret qe_bl))
 qss_nil)
 (qss_cons (qs_expr (qe_bmL rfl PySem.F.slot_list_append PySem.F.type_list_append mt_append refM_append (qv 9) (qa_cons qe_non qa_nil)))
 (qss_one (qs_if (qt_cmpR (oq_neW rfl hr.units) (qc (mds := [.b, .b]) (cal_signs_from_2 (K := K) T) (cal_signs_from_2_r (K := K) T) hr (by decide) L2.pass0 rfl rfl (qa_cons (qv 6) (qa_cons (qv 8) qa_nil))) (qc (mds := [.b, .b]) (cal__law_due_2 (K := K) T) (cal__law_due_2_r (K := K) T) hr (by decide) L2.pass0 rfl rfl (qa_cons (qv 7) (qa_cons (qv 8) qa_nil))) (nomark _))
 (qss_one (qs_ret qe_bl))
 qss_nil))))))))))))))))
 (qss_one (qs_ret qe_bl)))), fun xs C Q hlen h => ?_⟩)⟩
  obtain ⟨ns, rfl, rfl, hl, hq⟩ := h
  have hn : (ns.map D.int).length ≤ 63 := by rw [List.length_map]; exact hl
  refine ⟨law_rounds (N := 4) (n := (ns.map D.int).length) (by decide), ?_⟩
  refine ⟨fun i S C => ∃ o1 o2 o3 o4 o5 o6 o7 o8 o9 o10 o11, S = [some (.scr (ns.map D.int)), o1, o2, o3, o4, o5, o6, o7, o8, o9, o10, o11] ∧ C = [], ⟨_, _, _, _, _, _, _, _, _, _, _, rfl, rfl⟩, fun _ _ _ _ => True.intro, ?_, ?_⟩
  rotate_left
  · rintro S C ⟨o1, o2, o3, o4, o5, o6, o7, o8, o9, o10, o11, rfl, rfl⟩
    exact hq _
  rintro i0 d S C hd ⟨o1, o2, o3, o4, o5, o6, o7, o8, o9, o10, o11, rfl, rfl⟩
  obtain ⟨hi, rfl⟩ := rngD_get hd
  have hr : rounds 4 (ns.map D.int).length ≤ 4 := rounds_le (by decide)
  have hi4 : i0 < 4 := by
    have : i0 < (rounds 4 (ns.map D.int).length).toNat := hi
    omega
  refine ⟨ns, _, rfl, rfl, hl, by omega, by omega, fun p hp => ⟨rfl, ?_⟩⟩
  refine ⟨p, 0, 5, rfl, rfl, hp, by decide, by decide, by decide, fun nm p1 l1 l2 h1 => ⟨rfl, ?_⟩⟩
  refine ⟨p1, _, rfl, rfl, h1, by decide, fun m p2 m1 m2 h2 => ?_⟩
  refine ⟨p2, _, rfl, rfl, h2, by decide, fun r p3 r1 r2 h3 => ?_⟩
  refine ⟨by show 2 ≤ 15; decide, rfl, ?_⟩
  refine ⟨p3, _, 10, rfl, rfl, h3, by decide, by decide, by decide, fun n p4 n0 n1 h4 => ?_⟩
  refine ⟨⟨by omega, by omega⟩, ?_⟩
  refine ⟨fun j acc C => ∃ (qs : List PC) (p' : Pu), acc = dPcs qs ∧ qs.length = j ∧ (∀ q ∈ qs, q.signs.length ≤ 5000 ∧ ∀ s ∈ q.signs, s.page.length ≤ 1) ∧ PuOk (0 + 10 + 50 + 50 + 1 + 20 * j) p' ∧ C = [puL p', .dead, .dct (lvs m r)], ⟨[], p4, rfl, rfl, fun _ h => (nomatch h), h4, rfl⟩, fun _ _ _ _ => True.intro, ?_, ?_⟩
  · rintro j acc C d hd ⟨qs, p5, rfl, rfl, hs, h5, rfl⟩
    obtain ⟨hj, rfl⟩ := rngD_get hd
    refine ⟨p5, _, m, r, nm, rfl, rfl, h5, by omega, by omega, by omega, ⟨m1, m2⟩, ⟨r1, r2⟩, fun q p6 lq h6 => ?_⟩
    refine ⟨by rw [List.length_map]; omega, qs ++ [q], p6, ?_, by rw [List.length_append]; rfl, fun x hx => ?_, h6.mono (by omega), rfl⟩
    · show dPcs qs ++ [dPc q] = (qs ++ [q]).map dPc
      rw [List.map_append]; rfl
    · rcases List.mem_append.mp hx with z | z
      · exact hs x z
      · rw [List.mem_singleton] at z; rw [z]; exact lq
  rintro acc C ⟨qs, p5, rfl, lq, hs, h5, rfl⟩
  rw [rngD_len] at lq h5
  have lq' : qs.length ≤ 10 := by omega
  show dEqO ownPc [("Piece" : Str)] 4 true (.cel 3) (.cel 4) [puL p5, .dead, .dct (lvs m r), .lst (dPcs qs), .lst []] _
  have hk : (["Piece"] : List Str).contains ("Piece" : Str) = true := by decide +kernel
  refine dEqO_use (a := .lst (dPcs qs)) (b := .lst (dPcs [])) rfl rfl (nv_pcs hk _) rfl (eqO_list (eqO_pc 3) qs []) ?_
  refine iteDN (fun g => ?wa) (fun g => ?wb)
  case' wa =>
    refine ⟨p5, _, 3, rfl, rfl, h5, by omega, by decide, by decide, fun b p6 b0 b1 h6 => ?_⟩
    refine iteD (fun c => ?wc) (fun c => ?wd)
  case' wc =>
    obtain ⟨q0, r0, e⟩ : ∃ q0 r0, qs = q0 :: r0 := by
      cases qs with
      | nil => exact absurd rfl g
      | cons x r => exact ⟨x, r, rfl⟩
    refine ⟨dPc q0, by rw [e]; exact at_zero, by show (dPcs qs).length + 1 ≤ _; rw [List.length_map]; omega, ?_⟩
    show dSeq _ _ _ _ [_, _, _, .lst (dPcs qs ++ [dPc q0]), _]
    rw [show dPcs qs ++ [dPc q0] = dPcs (qs ++ [q0]) from by show _ = (qs ++ [q0]).map dPc; rw [List.map_append]; rfl]
    have hs2 : ∀ q ∈ qs ++ [q0], q.signs.length ≤ 5000 ∧ ∀ s ∈ q.signs, s.page.length ≤ 1 := fun x hx => by
      rcases List.mem_append.mp hx with z | z
      · exact hs x z
      · rw [List.mem_singleton] at z; rw [z]; exact hs q0 (by rw [e]; exact List.mem_cons_self)
    have lq2 : (qs ++ [q0]).length ≤ 11 := by rw [List.length_append]; show _ + 1 ≤ _; omega
    generalize qs ++ [q0] = qs2 at *
    have h7 : PuOk 500 p6 := h6.mono (by omega)
    generalize p6 = p7 at *
  case' wd =>
    have hs2 := hs
    have lq2 : qs.length ≤ 11 := by omega
    generalize qs = qs2 at *
    have h7 : PuOk 500 p6 := h6.mono (by omega)
    generalize p6 = p7 at *
  case' wb =>
    have hs2 := hs
    have lq2 : qs.length ≤ 11 := by omega
    generalize qs = qs2 at *
    have h7 : PuOk 500 p5 := h5.mono (by omega)
    generalize p5 = p7 at *
  all_goals
    have hs4 : ∀ q ∈ qs2, q.signs.length ≤ 5000 := fun q hq => (hs2 q hq).1
    have lF : ∀ a : Pla, (fromD a qs2 qs2.length).length ≤ 55000 := fun a => Nat.le_trans (fromD_len hs4 _ (Nat.le_refl _)) (Nat.mul_le_mul_right 5000 lq2)
    have pF : ∀ a : Pla, plD 40 (.lst (fromD a qs2 qs2.length)) = true := fun a => plD_lst (pl_fromD 38 a qs2 _ (Nat.le_refl _))
    refine ⟨⟨by decide, by decide⟩, ?_⟩
    refine ⟨fun i S C => ∃ (o5 o8 o9 o10 o11 : Option DV) (p8 : Pu), S = [some (.scr (ns.map D.int)), some (.of (.int (0 + (i0 : Nat)))), some (.cel 0), some (.of (.lst (dStrs nm))), some (.cel 2), o5, some (.cel 3), some (.of (.lst (dPcs qs2))), o8, o9, o10, o11] ∧ PuOk (500 + 3 * i) p8 ∧ C = [puL p8, .dead, .dct (lvs m r), .lst (dPcs qs2), .lst [], .dead], ⟨_, _, _, _, _, p7, rfl, h7, rfl⟩, fun _ _ _ _ => True.intro, ?_, ?_⟩
    · rintro j d S C hd ⟨o5, o8, o9, o10, o11, p8, rfl, h8, rfl⟩
      obtain ⟨hj, rfl⟩ := rngD_get hd
      have hj5 : j < 5 := hj
      refine ⟨p8, _, qs2, rfl, rfl, h8, by omega, by omega, hs2, fun a p9 h9 => ?_⟩
      refine ⟨qs2, a, rfl, rfl, by omega, hs4, rfl, qs2, a, rfl, rfl, by omega, hs4, rfl, by show (0 : Int) < 2; decide, ?_⟩
      have lF := lF a
      have pF := pF a
      have eF : eqDs (fromD a qs2 qs2.length) (fromD a qs2 qs2.length) = true := eqD_pairs pair_fromD
      have hF : ∀ d ∈ fromD a qs2 qs2.length, PairD d := pair_fromD
      rcases Int.emod_two_eq (0 + (j : Nat) : Int) with e | e
      · refine .inl ⟨e, ?_⟩
        refine ⟨rfl, qs2, a, rfl, rfl, by omega, hs4, rfl, ⟨pF, pF⟩, ?_⟩
        show if (!eqDs (fromD a qs2 qs2.length) (fromD a qs2 qs2.length)) = true then _ else _
        rw [eF, if_neg (show ¬ ((!true) = true) by decide)]
        refine iteDN (fun g => absurd rfl g) (fun _ => ?_)
        refine ⟨fun j acc C => acc = List.replicate j (D.bl true) ∧ C = [puL p9, .dead, .dct (lvs m r), .lst (dPcs qs2), .lst [], .dead, .lst (fromD a qs2 qs2.length), .lst (fromD a qs2 qs2.length), .lst (fromD a qs2 qs2.length)], ⟨rfl, rfl⟩, fun _ _ _ h => by obtain ⟨_, rfl⟩ := h; rfl, ?_, ?_⟩
        · rintro j acc C d hd ⟨rfl, rfl⟩
          have hj := (List.getElem?_eq_some_iff.mp hd).1
          obtain ⟨u, v, rfl⟩ := hF d (List.mem_of_getElem? hd)
          refine ⟨rfl, u, rfl, rfl, v, rfl, rfl, by rw [List.length_replicate]; omega, ?_, rfl⟩
          rw [List.replicate_succ']
        rintro acc C ⟨rfl, rfl⟩
        obtain ⟨b1, b2⟩ := allB_rep (fromD a qs2 qs2.length).length
        refine ⟨_, b1, ?_⟩
        show if (!((List.replicate (fromD a qs2 qs2.length).length true).all id)) = true then _ else _
        rw [b2, if_neg (show ¬ ((!true) = true) by decide)]
        refine ⟨by omega, ?_⟩
        refine ⟨qs2, a, rfl, rfl, by omega, hs4, rfl, qs2, a, rfl, rfl, by omega, hs4, rfl, ⟨pF, pF⟩, ?_⟩
        show if (!eqDs (fromD a qs2 qs2.length) (fromD a qs2 qs2.length)) = true then _ else _
        rw [eF, if_neg (show ¬ ((!true) = true) by decide)]
        exact ⟨_, _, _, _, _, p9, rfl, h9.mono (by omega), rfl⟩
      · refine .inr ⟨e, ?_⟩
        refine ⟨rfl, qs2, a, rfl, rfl, by omega, hs4, rfl, ⟨pF, pF⟩, ?_⟩
        show if (!eqDs (fromD a qs2 qs2.length) (fromD a qs2 qs2.length)) = true then _ else _
        rw [eF, if_neg (show ¬ ((!true) = true) by decide)]
        refine iteDN (fun g => absurd rfl g) (fun _ => ?_)
        refine ⟨fun j acc C => acc = List.replicate j (D.bl true) ∧ C = [puL p9, .dead, .dct (lvs m r), .lst (dPcs qs2), .lst [], .dead, .lst (fromD a qs2 qs2.length), .lst (fromD a qs2 qs2.length), .lst (fromD a qs2 qs2.length)], ⟨rfl, rfl⟩, fun _ _ _ h => by obtain ⟨_, rfl⟩ := h; rfl, ?_, ?_⟩
        · rintro j acc C d hd ⟨rfl, rfl⟩
          have hj := (List.getElem?_eq_some_iff.mp hd).1
          obtain ⟨u, v, rfl⟩ := hF d (List.mem_of_getElem? hd)
          refine ⟨rfl, u, rfl, rfl, v, rfl, rfl, by rw [List.length_replicate]; omega, ?_, rfl⟩
          rw [List.replicate_succ']
        rintro acc C ⟨rfl, rfl⟩
        obtain ⟨b1, b2⟩ := allB_rep (fromD a qs2 qs2.length).length
        refine ⟨_, b1, ?_⟩
        show if (!((List.replicate (fromD a qs2 qs2.length).length true).all id)) = true then _ else _
        rw [b2, if_neg (show ¬ ((!true) = true) by decide)]
        refine ⟨by omega, ?_⟩
        refine ⟨qs2, a, rfl, rfl, by omega, hs4, rfl, qs2, a, rfl, rfl, by omega, hs4, rfl, ⟨pF, pF⟩, ?_⟩
        show if (!eqDs (fromD a qs2 qs2.length) (fromD a qs2 qs2.length)) = true then _ else _
        rw [eF, if_neg (show ¬ ((!true) = true) by decide)]
        exact ⟨_, _, _, _, _, p9, rfl, h9.mono (by omega), rfl⟩
    · rintro S C ⟨o5, o8, o9, o10, o11, p8, rfl, h8, rfl⟩
      exact ⟨_, _, _, _, _, _, _, _, _, _, _, rfl, rfl⟩


end Z

namespace Z
open PySem PySem.Spec PyProof.Rows L2
theorem law_pre {K : PySem.W.Frag} {H : Hp} {a : Addr} {ns : List Int} (hl : ns.length ≤ 63) (hO : Only H) (hS : SqL K H a (ns.map V.int)) : rawSp K 1 sp_law [.ref a] H (fun v _ => v = .bl true) fun _ _ _ => False :=
  ⟨rfl, ⟨H, [], [], [], []⟩, [], [.scr (ns.map D.int)], rfl, rfl, mem0, fun b h => by simp at h, .cons _ _ _ _ (scr_of hS) .nil, fun r _ => r = .of (.bl true), ⟨ns, rfl, rfl, hl, fun _ => rfl⟩, fun r C' e W' v _ _ rv => by subst e; cases rv; rfl⟩
/-! ### the head, the end -/
theorem law_fd {w : World} {K : PySem.W.Frag} {mg : Str → Option Value} {P : Program} (T : Top w K mg) : ∃ fd : FuncData, (∀ (s : Shared) (u : Value), BindsTo s fd ⟨[u], []⟩ [("_law_script", u)]) ∧ ∀ base : Heap, FnOk P w K mg base CX0 8 (He.ga K "law") fd ["_law_script"] (rawSp K 1 sp_law) := by
  obtain ⟨fd, F, S⟩ := ok_law (P := P) T
  exact ⟨fd, fun s u => FunD.bindsA (ps := ["_law_script"]) F (fun _ _ _ _ _ _ us hl => match us, hl with | [_], _ => rfl) s [u] rfl, S⟩
end Z
open PySem PySem.W PySem.Calls PyProof.Rows
set_option maxRecDepth 100000 in
set_option maxHeartbeats 0 in
theorem PySem.Challenge.cw_bluepaint_k34_signs_from_holds : PySem.Challenge.rw_bluepaint_k34_signs_from.Holds := by
  w_on; o_law
  refine HandSHeadRun.head_any (r := OpenLaw.row PySem.Challenge.rw_bluepaint_k34_signs_from) (q := view (OpenLaw.row PySem.Challenge.rw_bluepaint_k34_signs_from).prog [24]) (H := Z.hk) (ob := Z.ob) (M := 20000) (loose := Z.loose) (d := HandSHeadRun.topDef (OpenLaw.row PySem.Challenge.rw_bluepaint_k34_signs_from).prog 24) (kwd := []) Z.ob_eq
    (by kernel_rfl) (fun s => by kernel_rfl) Z.run (by kernel_rfl) (by kernel_rfl) (by kernel_rfl) (by rfl) (by first | assumption | decide +kernel) (by decide +kernel) ⟨rfl, rfl, rfl, rfl, rfl, by decide +kernel⟩ ?hw ?hc
  case hw => w_witness2
  case hc =>
    refine L2.walk_ofE (l := PySem.Challenge.rw_bluepaint_k34_signs_from) (n := 63) (k := 8) (x := "_law_script") (CX := L2.CX0) rfl (by decide) (by kernel_rfl) ⟨rfl, by decide, by decide⟩ ?F (fun _ _ _ _ z => z)
    intro w mg fa h Y G hmg0
    obtain ⟨K, KX, c⟩ := Y
    have hmg : mg ("law" : PySem.Str) = some (.ref fa) := by
      have e : (HandSHeadRun.topDef (OpenLaw.row PySem.Challenge.rw_bluepaint_k34_signs_from).prog 24).name = ("law" : PySem.Str) := by kernel_rfl
      rw [← e]
      exact hmg0
    have T : Z.Top w K mg := ⟨h, KX, G, c⟩
    have e := hmg.symm.trans T.g_law
    cases e
    obtain ⟨fd, hb, hF⟩ := Z.law_fd (P := (PySem.Challenge.rw_bluepaint_k34_signs_from).prog) T
    exact ⟨K, fd, Z.rawSp K 1 Z.sp_law, KX, hb, fun H a ns hl hO hS => Z.law_pre hl hO hS, fun base _ _ => hF base⟩
